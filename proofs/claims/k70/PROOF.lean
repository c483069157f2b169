import PyProof.Rows.All
import Wide.All
import OpenK.AllK
import Wide.FinOn
import HandS.ForMost
import HandS.Exc
import HandS.ExcOwn
import HandS.IsInst
import HandS.Property
import HandS.Wide
import HandS.HeadHook1
import HandS.TupAny
import HandS.TupMul
import HandS.Walk
import HandS.Zip
import HandS.Deep
import HandS.Star
import HandS.Text
import HandS.Small
import KE.GoesEnum
import KE.DatumOrd
import KE.DataMinMax
import KE.KStateDown
import HandS.Head0
import HandS.Head1
import HandS.Head2
import HandS.HeadEnd
import PyProof.ExcBaseAll.ArithmeticError
import HandS.WordsExc
import HandS.TryOnly
import PySem.Challenge.RW_softchances_k70_whole_one_quote_may_be_w
set_option Elab.async false
section
set_option linter.all false
namespace Z
/-! ### fractions: plain laws -/
abbrev Fr : Type := Int × Int
def gcdI (a b : Int) : Int := (Int.gcd a b : Nat)
def low (t b : Int) : Fr := (t / gcdI t b, b / gcdI t b)
def fplus (x y : Fr) : Fr := low (x.1 * y.2 + y.1 * x.2) (x.2 * y.2)
def fless (x y : Fr) : Bool := decide (x.1 * y.2 < y.1 * x.2)
/-- of at most so many bits, the bottom above 0 -/
def Sz (n : Nat) (x : Fr) : Prop := x.1.natAbs < 2 ^ n ∧ 0 < x.2 ∧ x.2.natAbs < 2 ^ n
theorem gcd_pos {t b : Int} (h : 0 < b) : 0 < gcdI t b := by
  unfold gcdI
  have : 0 < Int.gcd t b := Int.gcd_pos_of_ne_zero_right t (by omega)
  omega
theorem gcd_dvd (t b : Int) : gcdI t b ∣ t ∧ gcdI t b ∣ b := ⟨Int.gcd_dvd_left t b, Int.gcd_dvd_right t b⟩
theorem low_mul {t b : Int} (h : 0 < b) : (low t b).1 * gcdI t b = t ∧ (low t b).2 * gcdI t b = b :=
  ⟨Int.ediv_mul_cancel (gcd_dvd t b).1, Int.ediv_mul_cancel (gcd_dvd t b).2⟩
theorem low_pos {t b : Int} (h : 0 < b) : 0 < (low t b).2 := by
  have h1 := (low_mul (t := t) h).2
  have h2 := gcd_pos (t := t) h
  refine Int.not_le.mp fun z => ?_
  have : (low t b).2 * gcdI t b ≤ 0 := Int.mul_nonpos_of_nonpos_of_nonneg z (Int.le_of_lt h2)
  omega
/-- the same number -/
theorem low_eq {t b : Int} (h : 0 < b) : (low t b).1 * b = t * (low t b).2 := by
  obtain ⟨h1, h2⟩ := low_mul (t := t) h
  generalize gcdI t b = g at *
  generalize (low t b).1 = x at *
  generalize (low t b).2 = y at *
  rw [← h1, ← h2]
  grind
theorem low_coprime {t b : Int} (h : 0 < b) : Int.gcd (low t b).1 (low t b).2 = 1 := by
  have hg : 0 < Int.gcd t b := Int.gcd_pos_of_ne_zero_right t (by omega)
  exact Int.gcd_ediv_gcd_ediv_gcd hg
theorem abs_div_le (a g : Int) (hg : 0 < g) : (a / g).natAbs ≤ a.natAbs := by
  exact Int.natAbs_ediv_le_natAbs a g
theorem low_sz {n : Nat} {t b : Int} (h : Sz n (t, b)) : Sz n (low t b) := by
  obtain ⟨h1, h2, h3⟩ := h
  have hg := gcd_pos (t := t) h2
  exact ⟨Nat.lt_of_le_of_lt (abs_div_le t _ hg) h1, low_pos h2, Nat.lt_of_le_of_lt (abs_div_le b _ hg) h3⟩
theorem dvd_cop {a b c : Int} (h : a ∣ b * c) (g : Int.gcd a b = 1) : a ∣ c := by
  have h1 := Int.dvd_gcd_mul_iff_dvd_mul.mpr h
  rw [g] at h1
  simpa using h1
/-- two fractions in lowest terms of one value are one -/
theorem frac_ext {x y : Fr} (hx : 0 < x.2) (hy : 0 < y.2) (gx : Int.gcd x.1 x.2 = 1) (gy : Int.gcd y.1 y.2 = 1) (h : x.1 * y.2 = y.1 * x.2) : x = y := by
  have d1 : x.2 ∣ y.2 := by
    have : x.2 ∣ x.1 * y.2 := ⟨y.1, by rw [h, Int.mul_comm]⟩
    exact dvd_cop this (by rw [Int.gcd_comm]; exact gx)
  have d2 : y.2 ∣ x.2 := by
    have : y.2 ∣ y.1 * x.2 := ⟨x.1, by rw [← h, Int.mul_comm]⟩
    exact dvd_cop this (by rw [Int.gcd_comm]; exact gy)
  have e : x.2 = y.2 := by
    obtain ⟨a, ha⟩ := d1
    obtain ⟨b, hb⟩ := d2
    have h1 := Int.le_of_dvd hy (⟨a, ha⟩ : x.2 ∣ y.2)
    have h2 := Int.le_of_dvd hx (⟨b, hb⟩ : y.2 ∣ x.2)
    omega
  rw [e] at h
  have : x.1 = y.1 := Int.eq_of_mul_eq_mul_right (by omega) h
  exact Prod.ext this e
theorem low_ext {t b t' b' : Int} (h : 0 < b) (h' : 0 < b') (e : t * b' = t' * b) : low t b = low t' b' := by
  refine frac_ext (low_pos h) (low_pos h') (low_coprime h) (low_coprime h') ?_
  have e1 := low_eq (t := t) h
  have e2 := low_eq (t := t') h'
  have p1 := low_pos (t := t) h
  have p2 := low_pos (t := t') h'
  generalize (low t b).1 = x at *
  generalize (low t b).2 = y at *
  generalize (low t' b').1 = u at *
  generalize (low t' b').2 = v at *
  have : (x * v) * (b * b') = (u * y) * (b * b') := by grind
  exact Int.eq_of_mul_eq_mul_right (Int.ne_of_gt (Int.mul_pos h h')) this
theorem pow_le {m n : Nat} (h : m ≤ n) : 2 ^ m ≤ 2 ^ n := Nat.pow_le_pow_right (by decide) h
theorem bd_mul {a b : Int} {m n : Nat} (ha : a.natAbs < 2 ^ m) (hb : b.natAbs < 2 ^ n) : (a * b).natAbs < 2 ^ (m + n) := by
  rw [Int.natAbs_mul, Nat.pow_add]
  exact Nat.mul_lt_mul'' ha hb
theorem bd_add {a b : Int} {m : Nat} (ha : a.natAbs < 2 ^ m) (hb : b.natAbs < 2 ^ m) : (a + b).natAbs < 2 ^ (m + 1) := by
  rw [Nat.pow_succ]
  omega
theorem bd_sub {a b : Int} {m : Nat} (ha : a.natAbs < 2 ^ m) (hb : b.natAbs < 2 ^ m) : (a - b).natAbs < 2 ^ (m + 1) := by
  rw [Nat.pow_succ]
  omega
theorem bd_mono {a : Int} {m n : Nat} (ha : a.natAbs < 2 ^ m) (h : m ≤ n) : a.natAbs < 2 ^ n := Nat.lt_of_lt_of_le ha (pow_le h)
theorem plus_sz {m n : Nat} {x y : Fr} (hx : Sz m x) (hy : Sz n y) : Sz (m + n + 1) (fplus x y) := by
  obtain ⟨a1, a2, a3⟩ := hx
  obtain ⟨b1, b2, b3⟩ := hy
  refine low_sz ⟨?_, Int.mul_pos a2 b2, bd_mono (bd_mul a3 b3) (by omega)⟩
  exact bd_add (bd_mul a1 b3) (by rw [Nat.add_comm]; exact bd_mul b1 a3)
theorem sz_mono {m n : Nat} {x : Fr} (h : Sz m x) (k : m ≤ n) : Sz n x := ⟨bd_mono h.1 k, h.2.1, bd_mono h.2.2 k⟩
/-- the loop that finds it -/
theorem gcd_step (a b : Int) (ha : 0 ≤ a) (hb : 0 < b) : gcdI b (a % b) = gcdI a b := by
  unfold gcdI
  have h1 : Int.gcd (a % b) b = Int.gcd a b := by
    have hm : a % b = a - b * (a / b) := Int.emod_def a b
    rw [hm]
    simp
  rw [Int.gcd_comm b, h1]
theorem gcd_zero (a : Int) (ha : 0 ≤ a) : gcdI a 0 = a := by
  unfold gcdI
  rw [Int.gcd_zero_right]
  omega
theorem gcd_abs (a b : Int) : gcdI (if a < 0 then -a else a) (if b < 0 then -b else b) = gcdI a b := by
  unfold gcdI
  split <;> split <;> simp [Int.neg_gcd, Int.gcd_neg]
end Z
end
section
set_option linter.all false
namespace LP
/-! The simplex tableau as an explicit function of its basis. -/
abbrev V3 := Int × Int × Int
def det3 (a b c : V3) : Int := a.1 * (b.2.1 * c.2.2 - b.2.2 * c.2.1) - a.2.1 * (b.1 * c.2.2 - b.2.2 * c.1) + a.2.2 * (b.1 * c.2.1 - b.2.1 * c.1)
/-- m rows (2 or 3), n columns, the bounds' column at n, for two rows a third basis column at n + 1 -/
structure Prob where
  m : Nat
  n : Nat
  col : Nat → V3
  c0 : Nat → Int
abbrev St := Nat × Nat × Nat
def bi (b : St) : Nat → Nat
  | 0 => b.1
  | 1 => b.2.1
  | _ => b.2.2
def setb (b : St) (r s : Nat) : St := match r with
  | 0 => (s, b.2.1, b.2.2)
  | 1 => (b.1, s, b.2.2)
  | _ => (b.1, b.2.1, s)
section
variable (p : Prob)
def tt (b : St) (i j : Nat) : Int := match i with
  | 0 => det3 (p.col j) (p.col b.2.1) (p.col b.2.2)
  | 1 => det3 (p.col b.1) (p.col j) (p.col b.2.2)
  | _ => det3 (p.col b.1) (p.col b.2.1) (p.col j)
def dd (b : St) : Int := det3 (p.col b.1) (p.col b.2.1) (p.col b.2.2)
def ob (b : St) (j : Nat) : Int := p.c0 j * dd p b - p.c0 b.1 * tt p b 0 j - p.c0 b.2.1 * tt p b 1 j - p.c0 b.2.2 * tt p b 2 j
theorem three {i : Nat} (h : i < 3) : i = 0 ∨ i = 1 ∨ i = 2 := by omega
theorem bi_set {b : St} {r s i : Nat} (hr : r < 3) (hi : i < 3) : bi (setb b r s) i = if i = r then s else bi b i := by
  rcases three hr with rfl | rfl | rfl <;> rcases three hi with rfl | rfl | rfl <;> rfl
theorem tt_basic {b : St} {i i' : Nat} (hi : i < 3) (hi' : i' < 3) : tt p b i (bi b i') = if i = i' then dd p b else 0 := by
  rcases three hi with rfl | rfl | rfl <;> rcases three hi' with rfl | rfl | rfl <;> simp only [tt, bi, dd, det3, if_true, if_false] <;> simp <;> grind
theorem ob_basic {b : St} {i : Nat} (hi : i < 3) : ob p b (bi b i) = 0 := by
  unfold ob
  rcases three hi with rfl | rfl | rfl <;> rw [tt_basic p (by omega) (by omega), tt_basic p (by omega) (by omega), tt_basic p (by omega) (by omega)] <;> simp [bi] <;> grind
theorem dd_set {b : St} {r s : Nat} (hr : r < 3) : dd p (setb b r s) = tt p b r s := by
  rcases three hr with rfl | rfl | rfl <;> rfl
theorem tt_set_same {b : St} {r s j : Nat} (hr : r < 3) : tt p (setb b r s) r j = tt p b r j := by
  rcases three hr with rfl | rfl | rfl <;> rfl
theorem tt_set {b : St} {r s i j : Nat} (hr : r < 3) (hi : i < 3) (h : i ≠ r) : dd p b * tt p (setb b r s) i j = tt p b r s * tt p b i j - tt p b i s * tt p b r j := by
  rcases three hr with rfl | rfl | rfl <;> rcases three hi with rfl | rfl | rfl <;> first | exact absurd rfl h | (simp only [tt, setb, dd, det3]; grind)
/-- the last row behind a turn, from the others' -/
theorem ob_set {b : St} {r s j : Nat} (hr : r < 3) : dd p b * ob p (setb b r s) j = tt p b r s * ob p b j - ob p b s * tt p b r j := by
  have hd := dd_set p (b := b) (s := s) hr
  have hs := tt_set_same p (b := b) (s := s) (j := j) hr
  rcases three hr with rfl | rfl | rfl
  · have h1 := tt_set p (b := b) (r := 0) (s := s) (i := 1) (j := j) (by omega) (by omega) (by omega)
    have h2 := tt_set p (b := b) (r := 0) (s := s) (i := 2) (j := j) (by omega) (by omega) (by omega)
    unfold ob
    rw [hd]
    simp only [hs, setb] at h1 h2 ⊢
    simp only [setb] at hs
    rw [hs]
    generalize tt p (s, b.2) 1 j = z1 at h1 ⊢
    generalize tt p (s, b.2) 2 j = z2 at h2 ⊢
    grind
  · have h1 := tt_set p (b := b) (r := 1) (s := s) (i := 0) (j := j) (by omega) (by omega) (by omega)
    have h2 := tt_set p (b := b) (r := 1) (s := s) (i := 2) (j := j) (by omega) (by omega) (by omega)
    unfold ob
    rw [hd]
    simp only [setb] at h1 h2 hs ⊢
    rw [hs]
    generalize tt p (b.1, s, b.2.2) 0 j = z1 at h1 ⊢
    generalize tt p (b.1, s, b.2.2) 2 j = z2 at h2 ⊢
    grind
  · have h1 := tt_set p (b := b) (r := 2) (s := s) (i := 0) (j := j) (by omega) (by omega) (by omega)
    have h2 := tt_set p (b := b) (r := 2) (s := s) (i := 1) (j := j) (by omega) (by omega) (by omega)
    unfold ob
    rw [hd]
    simp only [setb] at h1 h2 hs ⊢
    rw [hs]
    generalize tt p (b.1, b.2.1, s) 0 j = z1 at h1 ⊢
    generalize tt p (b.1, b.2.1, s) 1 j = z2 at h2 ⊢
    grind
/-- K: the last row of one basis along the way of a number in another one -/
theorem key (a b : St) (s : Nat) : ob p b s * dd p a - ob p b a.1 * tt p a 0 s - ob p b a.2.1 * tt p a 1 s - ob p b a.2.2 * tt p a 2 s = dd p b * ob p a s := by
  simp only [ob]
  have e : ∀ (u v w : V3) (x : Nat), tt p b x s * dd p a = tt p b x a.1 * tt p a 0 s + tt p b x a.2.1 * tt p a 1 s + tt p b x a.2.2 * tt p a 2 s := by
    intro _ _ _ x
    match x with
    | 0 => simp only [tt, dd, det3]; grind
    | 1 => simp only [tt, dd, det3]; grind
    | x + 2 => simp only [tt, dd, det3]; grind
  have e0 := e (0,0,0) (0,0,0) (0,0,0) 0
  have e1 := e (0,0,0) (0,0,0) (0,0,0) 1
  have e2 := e (0,0,0) (0,0,0) (0,0,0) 2
  generalize tt p b 0 s = A0 at *
  generalize tt p b 1 s = A1 at *
  generalize tt p b 2 s = A2 at *
  generalize tt p b 0 a.1 = B00 at *
  generalize tt p b 0 a.2.1 = B01 at *
  generalize tt p b 0 a.2.2 = B02 at *
  generalize tt p b 1 a.1 = B10 at *
  generalize tt p b 1 a.2.1 = B11 at *
  generalize tt p b 1 a.2.2 = B12 at *
  generalize tt p b 2 a.1 = B20 at *
  generalize tt p b 2 a.2.1 = B21 at *
  generalize tt p b 2 a.2.2 = B22 at *
  generalize tt p a 0 s = C0 at *
  generalize tt p a 1 s = C1 at *
  generalize tt p a 2 s = C2 at *
  grind
end
end LP
namespace LP
section
variable (p : Prob)
/-! ### entering, leaving, the turn -/
def ent (b : St) : Option Nat := (List.range p.n).find? fun j => decide (ob p b j < 0)
def ahead (b : St) (s i f : Nat) : Bool :=
  decide (tt p b i p.n * tt p b f s < tt p b f p.n * tt p b i s) || (decide (tt p b i p.n * tt p b f s = tt p b f p.n * tt p b i s) && decide (bi b i < bi b f))
def leavStep (b : St) (s : Nat) (found : Option Nat) (i : Nat) : Option Nat :=
  if 0 < tt p b i s then (match found with
    | none => some i
    | some f => if ahead p b s i f = true then some i else some f) else found
def leav (b : St) (s : Nat) : Option Nat := (List.range p.m).foldl (leavStep p b s) none
def nxt (b : St) : Option St := match ent p b with
  | none => none
  | some s => match leav p b s with
    | none => none
    | some r => some (setb b r s)

theorem ent_some {b : St} {s : Nat} (h : ent p b = some s) : s < p.n ∧ ob p b s < 0 ∧ ∀ j, j < s → 0 ≤ ob p b j := by
  unfold ent at h
  rw [List.find?_range_eq_some] at h
  obtain ⟨h1, h2, h3⟩ := h
  refine ⟨by simpa using h2, by simpa using h1, fun j hj => ?_⟩
  have := h3 j hj
  simp at this
  exact this
theorem ent_none {b : St} (h : ent p b = none) {j : Nat} (hj : j < p.n) : 0 ≤ ob p b j := by
  unfold ent at h
  rw [List.find?_eq_none] at h
  have := h j (by simpa using hj)
  simp at this
  exact this

/-- what leaving tells of the rows up to k -/
def LvOk (b : St) (s k : Nat) (o : Option Nat) : Prop := match o with
  | none => ∀ i, i < k → tt p b i s ≤ 0
  | some r => r < k ∧ 0 < tt p b r s ∧ ∀ i, i < k → 0 < tt p b i s → tt p b r p.n * tt p b i s ≤ tt p b i p.n * tt p b r s ∧ (tt p b r p.n * tt p b i s = tt p b i p.n * tt p b r s → bi b r ≤ bi b i)
theorem ratio_trans {ai ti af tf ak tk : Int} (hf : 0 < tf) (hi : 0 < ti) (hk : 0 < tk) (h1 : ai * tf ≤ af * ti) (h2 : af * tk ≤ ak * tf) : ai * tk ≤ ak * ti := by
  have a1 : ai * tf * tk ≤ af * ti * tk := Int.mul_le_mul_of_nonneg_right h1 (Int.le_of_lt hk)
  have a2 : af * tk * ti ≤ ak * tf * ti := Int.mul_le_mul_of_nonneg_right h2 (Int.le_of_lt hi)
  have a3 : (ai * tk) * tf ≤ (ak * ti) * tf := by grind
  exact Int.le_of_mul_le_mul_right a3 hf
theorem ratio_eq {ai ti af tf ak tk : Int} (hf : 0 < tf) (hi : 0 < ti) (hk : 0 < tk) (h1 : ai * tf ≤ af * ti) (h2 : af * tk ≤ ak * tf) (h3 : ai * tk = ak * ti) : ai * tf = af * ti ∧ af * tk = ak * tf := by
  have a1 : ai * tf * tk ≤ af * ti * tk := Int.mul_le_mul_of_nonneg_right h1 (Int.le_of_lt hk)
  have a2 : af * tk * ti ≤ ak * tf * ti := Int.mul_le_mul_of_nonneg_right h2 (Int.le_of_lt hi)
  have e0 : ak * tf * ti = ai * tf * tk := by
    have h4 : ai * tk * tf = ak * ti * tf := by rw [h3]
    grind
  have e4 : af * ti * tk = af * tk * ti := by grind
  have e1 : (ai * tf) * tk = (af * ti) * tk := by omega
  have e2 : (af * tk) * ti = (ak * tf) * ti := by omega
  exact ⟨Int.eq_of_mul_eq_mul_right (by omega) e1, Int.eq_of_mul_eq_mul_right (by omega) e2⟩
theorem lv_step {b : St} {s k : Nat} {o : Option Nat} (h : LvOk p b s k o) : LvOk p b s (k + 1) (leavStep p b s o k) := by
  unfold leavStep
  by_cases hp : 0 < tt p b k s
  · rw [if_pos hp]
    cases o with
    | none =>
      refine ⟨Nat.lt_succ_self _, hp, fun i hi hip => ?_⟩
      by_cases e : i = k
      · subst e
        exact ⟨Int.le_refl _, fun _ => Nat.le_refl _⟩
      · have := h i (by omega)
        omega
    | some f =>
      obtain ⟨hf, hfp, hm⟩ := h
      show LvOk p b s (k + 1) (if ahead p b s k f = true then some k else some f)
      by_cases ha : ahead p b s k f = true
      · rw [if_pos ha]
        have hle : tt p b k p.n * tt p b f s ≤ tt p b f p.n * tt p b k s ∧ (tt p b k p.n * tt p b f s = tt p b f p.n * tt p b k s → bi b k ≤ bi b f) := by
          unfold ahead at ha
          simp at ha
          rcases ha with ha | ⟨h1, h2⟩
          · exact ⟨Int.le_of_lt ha, fun e => by omega⟩
          · exact ⟨by omega, fun _ => Nat.le_of_lt h2⟩
        refine ⟨Nat.lt_succ_self _, hp, fun i hi hip => ?_⟩
        by_cases e : i = k
        · subst e
          exact ⟨Int.le_refl _, fun _ => Nat.le_refl _⟩
        · obtain ⟨m1, m2⟩ := hm i (by omega) hip
          refine ⟨ratio_trans hfp hp hip hle.1 m1, fun e3 => ?_⟩
          obtain ⟨q1, q2⟩ := ratio_eq hfp hp hip hle.1 m1 e3
          exact Nat.le_trans (hle.2 q1) (m2 q2)
      · rw [if_neg ha]
        refine ⟨by omega, hfp, fun i hi hip => ?_⟩
        by_cases e : i = k
        · subst e
          unfold ahead at ha
          simp at ha
          obtain ⟨h1, h2⟩ := ha
          exact ⟨h1, fun e => h2 e.symm⟩
        · exact hm i (by omega) hip
  · rw [if_neg hp]
    cases o with
    | none =>
      intro i hi
      by_cases e : i = k
      · subst e
        omega
      · exact h i (by omega)
    | some f =>
      obtain ⟨hf, hfp, hm⟩ := h
      refine ⟨by omega, hfp, fun i hi hip => ?_⟩
      by_cases e : i = k
      · subst e
        exact absurd hip hp
      · exact hm i (by omega) hip
theorem lv_all (b : St) (s : Nat) : ∀ k, LvOk p b s k ((List.range k).foldl (leavStep p b s) none)
  | 0 => fun i hi => absurd hi (Nat.not_lt_zero _)
  | k + 1 => by
    rw [List.range_succ, List.foldl_append]
    exact lv_step p (lv_all b s k)
theorem leav_ok (b : St) (s : Nat) : LvOk p b s p.m (leav p b s) := lv_all p b s p.m

/-! ### what stays true -/
structure Inv (b : St) : Prop where
  pos : 0 < dd p b
  lt : ∀ i, i < p.m → bi b i < p.n
  art : p.m = 2 → b.2.2 = p.n + 1
  rhs : ∀ i, i < p.m → 0 ≤ tt p b i p.n
structure Ok : Prop where
  m : p.m = 2 ∨ p.m = 3
  flat : p.m = 2 → ∀ j, j ≤ p.n → (p.col j).2.2 = 0
  art : p.m = 2 → p.c0 (p.n + 1) = 0
variable {p}
theorem Ok.le (o : Ok p) : p.m ≤ 3 := by rcases o.m with h | h <;> omega
theorem Inv.inj {b : St} (I : Inv p b) {i i' : Nat} (hi : i < 3) (hi' : i' < 3) (h : bi b i = bi b i') : i = i' := by
  have h1 := tt_basic p (b := b) hi hi
  have h2 := tt_basic p (b := b) hi hi'
  rw [h] at h1
  rw [h1] at h2
  by_cases e : i = i'
  · exact e
  · rw [if_pos rfl, if_neg e] at h2
    have := I.pos
    omega
theorem Inv.nonbasic {b : St} {j i : Nat} (hi : i < 3) (h : ob p b j < 0) : bi b i ≠ j := fun e => by
  rw [← e, ob_basic p hi] at h
  omega
theorem leav_some {b : St} {s r : Nat} (h : leav p b s = some r) : r < p.m ∧ 0 < tt p b r s ∧ ∀ i, i < p.m → 0 < tt p b i s → tt p b r p.n * tt p b i s ≤ tt p b i p.n * tt p b r s ∧ (tt p b r p.n * tt p b i s = tt p b i p.n * tt p b r s → bi b r ≤ bi b i) := by
  have := leav_ok p b s
  rw [h] at this
  exact this
theorem leav_none {b : St} {s : Nat} (h : leav p b s = none) : ∀ i, i < p.m → tt p b i s ≤ 0 := by
  have := leav_ok p b s
  rw [h] at this
  exact this
theorem nxt_some {b b' : St} (h : nxt p b = some b') : ∃ s r, ent p b = some s ∧ leav p b s = some r ∧ b' = setb b r s := by
  unfold nxt at h
  cases e : ent p b with
  | none => rw [e] at h; cases h
  | some s =>
    rw [e] at h
    have h : (match leav p b s with | none => none | some r => some (setb b r s)) = some b' := h
    cases l : leav p b s with
    | none => rw [l] at h; cases h
    | some r =>
      rw [l] at h
      exact ⟨s, r, rfl, l, (Option.some.inj h).symm⟩
theorem Inv.turn (o : Ok p) {b : St} {s r : Nat} (I : Inv p b) (he : ent p b = some s) (hl : leav p b s = some r) : Inv p (setb b r s) := by
  obtain ⟨e1, e2, e3⟩ := ent_some p he
  obtain ⟨l1, l2, l3⟩ := leav_some hl
  have h3 := o.le
  have hr : r < 3 := by omega
  refine ⟨by rw [dd_set p hr]; exact l2, fun i hi => ?_, fun h2 => ?_, fun i hi => ?_⟩
  · rw [bi_set hr (by omega)]
    split
    · exact e1
    · exact I.lt i hi
  · have : r = 0 ∨ r = 1 := by omega
    rcases this with rfl | rfl
    · exact I.art h2
    · exact I.art h2
  · by_cases e : i = r
    · subst e
      rw [tt_set_same p hr]
      exact I.rhs i hi
    · have q := tt_set p (b := b) (r := r) (s := s) (i := i) (j := p.n) hr (by omega) e
      have hd := I.pos
      have a1 := I.rhs i hi
      have a2 := I.rhs r l1
      have : 0 ≤ dd p b * tt p (setb b r s) i p.n := by
        rw [q]
        by_cases hp : 0 < tt p b i s
        · have := (l3 i hi hp).1
          grind
        · have b1 : 0 ≤ tt p b r s * tt p b i p.n := Int.mul_nonneg (Int.le_of_lt l2) a1
          have b2 : tt p b i s * tt p b r p.n ≤ 0 := Int.mul_nonpos_of_nonpos_of_nonneg (by omega) a2
          omega
      exact Int.nonneg_of_mul_nonneg_right this hd
theorem Inv.next (o : Ok p) {b b' : St} (I : Inv p b) (h : nxt p b = some b') : Inv p b' := by
  obtain ⟨s, r, he, hl, rfl⟩ := nxt_some h
  exact I.turn o he hl
end
end LP
namespace LP
/-! ### Bland: the turns end -/
/-- of so many values two are alike -/
theorem pigeon : ∀ (M : Nat) (f : Nat → Nat), (∀ k, k ≤ M → f k < M) → ∃ i j, i < j ∧ j ≤ M ∧ f i = f j
  | 0, f, h => absurd (h 0 (Nat.le_refl _)) (Nat.not_lt_zero _)
  | M + 1, f, h => by
    by_cases e : ∃ i, i ≤ M ∧ f i = f (M + 1)
    · obtain ⟨i, hi, q⟩ := e
      exact ⟨i, M + 1, by omega, Nat.le_refl _, q⟩
    · have ne : ∀ i, i ≤ M → f i ≠ f (M + 1) := fun i hi q => e ⟨i, hi, q⟩
      have hlast := h (M + 1) (Nat.le_refl _)
      obtain ⟨i, j, h1, h2, h3⟩ := pigeon M (fun k => if f k < f (M + 1) then f k else f k - 1) (fun k hk => by
        have a := h k (by omega)
        have b := ne k hk
        show (if f k < f (M + 1) then f k else f k - 1) < M
        split <;> omega)
      have n1 := ne i (by omega)
      have n2 := ne j (by omega)
      have h3 : (if f i < f (M + 1) then f i else f i - 1) = (if f j < f (M + 1) then f j else f j - 1) := h3
      refine ⟨i, j, h1, by omega, ?_⟩
      split at h3 <;> split at h3 <;> omega
/-- so many turns are left -/
inductive Left (p : Prob) : Nat → St → Prop where
  | stop {b : St} (h : nxt p b = none) : Left p 0 b
  | go {b b' : St} {k : Nat} (h : nxt p b = some b') (l : Left p k b') : Left p (k + 1) b
theorem greatest_below {P : Nat → Prop} (n : Nat) (hb : ∀ t, P t → t < n) (t0 : Nat) (h0 : P t0) : ∃ t, P t ∧ ∀ t', P t' → t' ≤ t := by
  have key : ∀ d t, P t → n - t ≤ d → ∃ t, P t ∧ ∀ t', P t' → t' ≤ t := by
    intro d
    induction d with
    | zero =>
      intro t ht hd
      have := hb t ht
      omega
    | succ d ih =>
      intro t ht hd
      by_cases e : ∃ t', P t' ∧ t < t'
      · obtain ⟨t', h1, h2⟩ := e
        exact ih t' h1 (by omega)
      · exact ⟨t, ht, fun t' h' => Nat.le_of_not_lt fun q => e ⟨t', h', q⟩⟩
  exact key n t0 h0 (Nat.sub_le _ _)
section
variable {p : Prob} (o : Ok p) (q : Nat → St) (hI : ∀ k, Inv p (q k)) (e r : Nat → Nat) (he : ∀ k, ent p (q k) = some (e k)) (hl : ∀ k, leav p (q k) (e k) = some (r k)) (hq : ∀ k, q (k + 1) = setb (q k) (r k) (e k))
include o hI he hl hq
theorem r_lt (k : Nat) : r k < p.m := (leav_some (hl k)).1
theorem r_lt3 (k : Nat) : r k < 3 := Nat.lt_of_lt_of_le (r_lt o q hI e r he hl hq k) o.le
theorem val_le (k : Nat) : ob p (q k) p.n * dd p (q (k + 1)) ≤ ob p (q (k + 1)) p.n * dd p (q k) := by
  have hr := r_lt3 o q hI e r he hl hq k
  have h1 := ob_set p (b := q k) (r := r k) (s := e k) (j := p.n) hr
  rw [← hq k] at h1
  have h2 := dd_set p (b := q k) (s := e k) hr
  rw [← hq k] at h2
  have h3 := (ent_some p (he k)).2.1
  have h4 := (hI k).rhs (r k) (r_lt o q hI e r he hl hq k)
  have h5 : ob p (q k) (e k) * tt p (q k) (r k) p.n ≤ 0 := Int.mul_nonpos_of_nonpos_of_nonneg (by omega) h4
  rw [h2]
  rw [Int.mul_comm (ob p (q (k + 1)) p.n), h1]
  rw [Int.mul_comm (ob p (q k) p.n)]
  omega
theorem val_mono (k : Nat) : ∀ d, ob p (q k) p.n * dd p (q (k + d)) ≤ ob p (q (k + d)) p.n * dd p (q k)
  | 0 => Int.le_refl _
  | d + 1 => by
    have h1 := val_mono k d
    have h2 := val_le o q hI e r he hl hq (k + d)
    have a := (hI k).pos
    have b := (hI (k + d)).pos
    have c := (hI (k + d + 1)).pos
    exact ratio_trans (ti := dd p (q k)) (tf := dd p (q (k + d))) (tk := dd p (q (k + d + 1))) b a c h1 h2
variable (i P : Nat) (hP : 0 < P) (per : ∀ k, i ≤ k → q (k + P) = q k)
include hP per
theorem per_mul (k : Nat) (hk : i ≤ k) : ∀ n, q (k + n * P) = q k
  | 0 => by rw [Nat.zero_mul, Nat.add_zero]
  | n + 1 => by
    rw [Nat.succ_mul, ← Nat.add_assoc, per _ (by omega)]
    exact per_mul k hk n
/-- nothing is gained within the round -/
theorem deg (k : Nat) (hk : i ≤ k) : tt p (q k) (r k) p.n = 0 := by
  have hr := r_lt3 o q hI e r he hl hq k
  have h1 := ob_set p (b := q k) (r := r k) (s := e k) (j := p.n) hr
  rw [← hq k] at h1
  have h2 := dd_set p (b := q k) (s := e k) hr
  rw [← hq k] at h2
  have h3 := (ent_some p (he k)).2.1
  have m := val_mono o q hI e r he hl hq (k + 1) (P - 1)
  rw [show k + 1 + (P - 1) = k + P by omega, per k hk] at m
  have m2 := val_le o q hI e r he hl hq k
  rw [h2, Int.mul_comm (ob p (q (k + 1)) p.n) (dd p (q k)), h1] at m m2
  have h5 : ob p (q k) (e k) * tt p (q k) (r k) p.n = 0 := by
    rw [Int.mul_comm (ob p (q k) p.n)] at m m2
    omega
  rcases Int.mul_eq_zero.mp h5 with z | z
  · omega
  · exact z
theorem stays {k x : Nat} (hx : x < 3) (hne : x ≠ r k) : bi (q (k + 1)) x = bi (q k) x := by
  rw [hq k, bi_set (r_lt3 o q hI e r he hl hq k) hx, if_neg hne]
theorem comes (k : Nat) : bi (q (k + 1)) (r k) = e k := by
  rw [hq k, bi_set (r_lt3 o q hI e r he hl hq k) (r_lt3 o q hI e r he hl hq k), if_pos rfl]
theorem zero_step {k x : Nat} (hk : i ≤ k) (hx : x < 3) (hne : x ≠ r k) (h : tt p (q (k + 1)) x p.n = 0) : tt p (q k) x p.n = 0 := by
  have h1 := tt_set p (b := q k) (r := r k) (s := e k) (i := x) (j := p.n) (r_lt3 o q hI e r he hl hq k) hx hne
  rw [← hq k, h, deg o q hI e r he hl hq i P hP per k hk] at h1
  have h2 := (leav_some (hl k)).2.1
  have : tt p (q k) (r k) (e k) * tt p (q k) x p.n = 0 := by omega
  rcases Int.mul_eq_zero.mp this with z | z
  · omega
  · exact z
/-- it leaves in the round -/
def Fick (t : Nat) : Prop := ∃ k, i ≤ k ∧ bi (q k) (r k) = t
theorem zero_at (t : Nat) : ∀ (d k x : Nat), i ≤ k → x < 3 → bi (q k) x = t → bi (q (k + d)) (r (k + d)) = t → tt p (q k) x p.n = 0
  | 0, k, x, hk, hx, h1, h2 => by
    have hr := r_lt3 o q hI e r he hl hq k
    have h2 : bi (q k) (r k) = t := h2
    have : x = r k := (hI k).inj hx hr (h1.trans h2.symm)
    rw [this]
    exact deg o q hI e r he hl hq i P hP per k hk
  | d + 1, k, x, hk, hx, h1, h2 => by
    by_cases hne : x = r k
    · rw [hne]
      exact deg o q hI e r he hl hq i P hP per k hk
    · refine zero_step o q hI e r he hl hq i P hP per hk hx hne ?_
      refine zero_at t d (k + 1) x (by omega) hx ?_ ?_
      · rw [stays o q hI e r he hl hq i P hP per hx hne]
        exact h1
      · rw [show k + 1 + d = k + (d + 1) by omega]
        exact h2
theorem rper (k : Nat) (hk : i ≤ k) (n : Nat) : e (k + n * P) = e k ∧ r (k + n * P) = r k := by
  have h := per_mul o q hI e r he hl hq i P hP per k hk n
  have a := he (k + n * P)
  rw [h, he k] at a
  have a := Option.some.inj a
  have b := hl (k + n * P)
  rw [h, ← a, hl k] at b
  exact ⟨a.symm, (Option.some.inj b).symm⟩
theorem zero_of {t k x : Nat} (f : Fick q r i t) (hk : i ≤ k) (hx : x < 3) (h : bi (q k) x = t) : tt p (q k) x p.n = 0 := by
  obtain ⟨k0, h0, h1⟩ := f
  have e1 := per_mul o q hI e r he hl hq i P hP per k0 h0 k
  have e2 := (rper o q hI e r he hl hq i P hP per k0 h0 k).2
  have hge : k ≤ k0 + k * P := Nat.le_trans (Nat.le_mul_of_pos_right k hP) (Nat.le_add_left _ _)
  refine zero_at o q hI e r he hl hq i P hP per t (k0 + k * P - k) k x hk hx h ?_
  rw [show k + (k0 + k * P - k) = k0 + k * P by omega, e1, e2]
  exact h1
theorem leave_between {t : Nat} : ∀ (d k : Nat), i ≤ k → (∃ x, x < 3 ∧ bi (q k) x = t) → (∀ x, x < 3 → bi (q (k + d)) x ≠ t) → Fick q r i t
  | 0, k, hk, ⟨x, hx, h⟩, hn => absurd h (hn x hx)
  | d + 1, k, hk, ⟨x, hx, h⟩, hn => by
    by_cases hne : x = r k
    · exact ⟨k, hk, by rw [← hne]; exact h⟩
    · refine leave_between d (k + 1) (by omega) ⟨x, hx, ?_⟩ ?_
      · rw [stays o q hI e r he hl hq i P hP per hx hne]
        exact h
      · rw [show k + 1 + d = k + (d + 1) by omega]
        exact hn
theorem enter_between {t : Nat} : ∀ (d k : Nat), i ≤ k → (∀ x, x < 3 → bi (q k) x ≠ t) → (∃ x, x < 3 ∧ bi (q (k + d)) x = t) → ∃ k', i ≤ k' ∧ e k' = t
  | 0, k, hk, hn, ⟨x, hx, h⟩ => absurd h (hn x hx)
  | d + 1, k, hk, hn, hb => by
    by_cases ht : e k = t
    · exact ⟨k, hk, ht⟩
    · refine enter_between d (k + 1) (by omega) (fun x hx => ?_) ?_
      · by_cases hne : x = r k
        · rw [hne, comes o q hI e r he hl hq i P hP per k]
          exact ht
        · rw [stays o q hI e r he hl hq i P hP per hx hne]
          exact hn x hx
      · rw [show k + 1 + d = k + (d + 1) by omega]
        exact hb
theorem fick_of_enter {k : Nat} (hk : i ≤ k) : Fick q r i (e k) := by
  refine leave_between o q hI e r he hl hq i P hP per (P - 1) (k + 1) (by omega) ⟨r k, r_lt3 o q hI e r he hl hq k, comes o q hI e r he hl hq i P hP per k⟩ fun x hx => ?_
  rw [show k + 1 + (P - 1) = k + P by omega, per k hk]
  exact Inv.nonbasic hx (ent_some p (he k)).2.1
theorem enter_of_fick {t : Nat} (f : Fick q r i t) : ∃ k, i ≤ k ∧ e k = t := by
  obtain ⟨k, hk, h⟩ := f
  have hr := r_lt3 o q hI e r he hl hq k
  refine enter_between o q hI e r he hl hq i P hP per (P - 1) (k + 1) (by omega) (fun x hx => ?_) ⟨r k, hr, ?_⟩
  · by_cases hne : x = r k
    · rw [hne, comes o q hI e r he hl hq i P hP per k]
      intro z
      exact Inv.nonbasic hr (ent_some p (he k)).2.1 (h.trans z.symm)
    · rw [stays o q hI e r he hl hq i P hP per hx hne]
      intro z
      exact hne ((hI k).inj hx hr (z.trans h.symm))
  · rw [show k + 1 + (P - 1) = k + P by omega, per k hk]
    exact h
theorem fick_of_two {j k k' x : Nat} (hk : i ≤ k) (hk' : i ≤ k') (hx : x < 3) (h1 : bi (q k) x = j) (h2 : ∀ x, x < 3 → bi (q k') x ≠ j) : Fick q r i j := by
  have e1 := per_mul o q hI e r he hl hq i P hP per k' hk' k
  have hge : k ≤ k' + k * P := Nat.le_trans (Nat.le_mul_of_pos_right k hP) (Nat.le_add_left _ _)
  refine leave_between o q hI e r he hl hq i P hP per (k' + k * P - k) k hk ⟨x, hx, h1⟩ fun y hy => ?_
  rw [show k + (k' + k * P - k) = k' + k * P by omega, e1]
  exact h2 y hy
theorem fick_lt {t : Nat} (f : Fick q r i t) : t < p.n := by
  obtain ⟨k, hk, h⟩ := f
  rw [← h]
  exact (hI k).lt _ (r_lt o q hI e r he hl hq k)
/-- no round -/
theorem no_round : False := by
  obtain ⟨t, ft, hmax⟩ := greatest_below (P := Fick q r i) p.n (fun t f => fick_lt o q hI e r he hl hq i P hP per f) _ ⟨i, Nat.le_refl _, rfl⟩
  obtain ⟨a, ha, hat⟩ := id ft
  obtain ⟨b, hb, hbt⟩ := enter_of_fick o q hI e r he hl hq i P hP per ft
  obtain ⟨a1, a2, a3⟩ := ent_some p (he a)
  obtain ⟨b1, b2, b3⟩ := ent_some p (he b)
  rw [hbt] at b1 b2 b3
  obtain ⟨l1, l2, l3⟩ := leav_some (hl a)
  have la := r_lt3 o q hI e r he hl hq a
  have da := (hI a).pos
  have db := (hI b).pos
  have K := key p (q a) (q b) (e a)
  have neg : dd p (q b) * ob p (q a) (e a) < 0 := Int.mul_neg_of_pos_of_neg db a2
  -- the one that enters at a
  have s0 : 0 ≤ ob p (q b) (e a) := by
    refine Int.not_lt.mp fun h => ?_
    have f1 := hmax _ (fick_of_enter o q hI e r he hl hq i P hP per ha)
    have : ¬ e a < t := fun z => by
      have := b3 _ z
      omega
    have et : e a = t := by omega
    exact Inv.nonbasic la a2 (hat.trans et.symm)
  have s1 : 0 ≤ ob p (q b) (e a) * dd p (q a) := Int.mul_nonneg s0 (Int.le_of_lt da)
  -- each of the basis at a
  have each : ∀ x, x < 3 → ob p (q b) (bi (q a) x) * tt p (q a) x (e a) ≤ 0 := fun x hx => by
    refine Int.not_lt.mp fun h => ?_
    by_cases hm : x < p.m
    · have hne : ob p (q b) (bi (q a) x) ≠ 0 := fun z => by
        rw [z, Int.zero_mul] at h
        omega
      have fx : Fick q r i (bi (q a) x) := fick_of_two o q hI e r he hl hq i P hP per ha hb hx rfl fun y hy z => hne (by rw [← z]; exact ob_basic p hy)
      have fle := hmax _ fx
      by_cases hneg : ob p (q b) (bi (q a) x) < 0
      · have : ¬ bi (q a) x < t := fun z => by
          have := b3 _ z
          omega
        have et : bi (q a) x = t := by omega
        have ex : x = r a := (hI a).inj hx la (et.trans hat.symm)
        have : ob p (q b) (bi (q a) x) * tt p (q a) x (e a) < 0 := by
          rw [ex] at hneg ⊢
          exact Int.mul_neg_of_neg_of_pos hneg l2
        omega
      · have hpos : 0 < ob p (q b) (bi (q a) x) := by omega
        have hstep : 0 < tt p (q a) x (e a) := Int.pos_of_mul_pos_right h hpos
        have z1 := zero_of o q hI e r he hl hq i P hP per fx ha hx rfl
        have z2 := deg o q hI e r he hl hq i P hP per a ha
        have := (l3 x hm hstep).2 (by rw [z1, z2, Int.zero_mul, Int.zero_mul])
        rw [hat] at this
        have et : bi (q a) x = t := by omega
        rw [et] at hpos
        omega
    · -- the fixed column of two rows
      have hm2 : p.m = 2 := by have := o.m; omega
      have hx2 : x = 2 := by omega
      subst hx2
      have : ob p (q b) (bi (q a) 2) = 0 := by
        have e1 : bi (q a) 2 = bi (q b) 2 := by
          show (q a).2.2 = (q b).2.2
          rw [(hI a).art hm2, (hI b).art hm2]
        rw [e1]
        exact ob_basic p (by omega)
      rw [this, Int.zero_mul] at h
      omega
  have e0 : ob p (q b) (q a).1 * tt p (q a) 0 (e a) ≤ 0 := each 0 (by omega)
  have e1 : ob p (q b) (q a).2.1 * tt p (q a) 1 (e a) ≤ 0 := each 1 (by omega)
  have e2 : ob p (q b) (q a).2.2 * tt p (q a) 2 (e a) ≤ 0 := each 2 (by omega)
  omega
end
/-- the turns end -/
theorem left_all {p : Prob} (o : Ok p) {b : St} (I : Inv p b) : ∃ k, Left p k b := by
  refine Classical.byContradiction fun hno => ?_
  -- it goes on for ever
  have on : ∀ b, Inv p b → (¬ ∃ k, Left p k b) → ∃ b', nxt p b = some b' ∧ Inv p b' ∧ ¬ ∃ k, Left p k b' := fun b I h => by
    cases e : nxt p b with
    | none => exact absurd ⟨0, Left.stop e⟩ h
    | some b' => exact ⟨b', rfl, I.next o e, fun ⟨k, l⟩ => h ⟨k + 1, Left.go e l⟩⟩
  let G := { b : St // Inv p b ∧ ¬ ∃ k, Left p k b }
  let nx : G → G := fun g => ⟨Classical.choose (on g.1 g.2.1 g.2.2), (Classical.choose_spec (on g.1 g.2.1 g.2.2)).2⟩
  have hnx : ∀ g : G, nxt p g.1 = some (nx g).1 := fun g => (Classical.choose_spec (on g.1 g.2.1 g.2.2)).1
  let w : Nat → G := fun k => Nat.rec ⟨b, I, hno⟩ (fun _ g => nx g) k
  have hw : ∀ k, w (k + 1) = nx (w k) := fun k => rfl
  let q : Nat → St := fun k => (w k).1
  have hI : ∀ k, Inv p (q k) := fun k => (w k).2.1
  have hstep : ∀ k, nxt p (q k) = some (q (k + 1)) := fun k => hnx (w k)
  have hs : ∀ k, ∃ s r, ent p (q k) = some s ∧ leav p (q k) s = some r ∧ q (k + 1) = setb (q k) r s := fun k => nxt_some (hstep k)
  let e : Nat → Nat := fun k => Classical.choose (hs k)
  let r : Nat → Nat := fun k => Classical.choose (Classical.choose_spec (hs k))
  have her : ∀ k, ent p (q k) = some (e k) ∧ leav p (q k) (e k) = some (r k) ∧ q (k + 1) = setb (q k) (r k) (e k) := fun k => Classical.choose_spec (Classical.choose_spec (hs k))
  -- two states are alike
  have lt : ∀ k x, x < 3 → bi (q k) x < p.n + 2 := fun k x hx => by
    by_cases hm : x < p.m
    · have := (hI k).lt x hm
      omega
    · have hm2 : p.m = 2 := by have := o.m; omega
      have hx2 : x = 2 := by omega
      subst hx2
      have : bi (q k) 2 = p.n + 1 := (hI k).art hm2
      omega
  let B := p.n + 2
  let f : Nat → Nat := fun k => (q k).1 + B * ((q k).2.1 + B * (q k).2.2)
  have hf : ∀ k, f k < B * (B * B) := fun k => by
    have h0 : (q k).1 < B := lt k 0 (by omega)
    have h1 : (q k).2.1 < B := lt k 1 (by omega)
    have h2 : (q k).2.2 < B := lt k 2 (by omega)
    have a1 : (q k).2.1 + B * (q k).2.2 < B * B := by
      have : B * ((q k).2.2 + 1) ≤ B * B := Nat.mul_le_mul_left B h2
      rw [Nat.mul_add, Nat.mul_one] at this
      omega
    have a2 : B * ((q k).2.1 + B * (q k).2.2 + 1) ≤ B * (B * B) := Nat.mul_le_mul_left B a1
    rw [Nat.mul_add, Nat.mul_one] at a2
    show (q k).1 + B * ((q k).2.1 + B * (q k).2.2) < _
    omega
  obtain ⟨i, j, hij, _, hfij⟩ := pigeon (B * (B * B)) f fun k _ => hf k
  have eqs : q i = q j := by
    have hB : 0 < B := by show 0 < p.n + 2; omega
    have dm : ∀ k, (f k) % B = (q k).1 ∧ (f k) / B = (q k).2.1 + B * (q k).2.2 := fun k => by
      have h0 : (q k).1 < B := lt k 0 (by omega)
      refine ⟨?_, ?_⟩
      · show ((q k).1 + B * _) % B = _
        rw [Nat.add_mul_mod_self_left, Nat.mod_eq_of_lt h0]
      · show ((q k).1 + B * _) / B = _
        rw [Nat.add_mul_div_left _ _ hB, Nat.div_eq_of_lt h0, Nat.zero_add]
    have dm2 : ∀ k, ((q k).2.1 + B * (q k).2.2) % B = (q k).2.1 ∧ ((q k).2.1 + B * (q k).2.2) / B = (q k).2.2 := fun k => by
      have h0 : (q k).2.1 < B := lt k 1 (by omega)
      refine ⟨?_, ?_⟩
      · rw [Nat.add_mul_mod_self_left, Nat.mod_eq_of_lt h0]
      · rw [Nat.add_mul_div_left _ _ hB, Nat.div_eq_of_lt h0, Nat.zero_add]
    have a1 : (q i).1 = (q j).1 := by rw [← (dm i).1, ← (dm j).1, hfij]
    have a2 : (q i).2.1 + B * (q i).2.2 = (q j).2.1 + B * (q j).2.2 := by rw [← (dm i).2, ← (dm j).2, hfij]
    have a3 : (q i).2.1 = (q j).2.1 := by rw [← (dm2 i).1, ← (dm2 j).1, a2]
    have a4 : (q i).2.2 = (q j).2.2 := by rw [← (dm2 i).2, ← (dm2 j).2, a2]
    exact Prod.ext a1 (Prod.ext a3 a4)
  have per : ∀ k, i ≤ k → q (k + (j - i)) = q k := fun k hk => by
    induction k with
    | zero =>
      have : i = 0 := by omega
      subst this
      rw [show 0 + (j - 0) = j by omega]
      exact eqs.symm
    | succ k ih =>
      by_cases h : i ≤ k
      · have h1 := hstep (k + (j - i))
        rw [ih h, hstep k] at h1
        have h2 := Option.some.inj h1
        rw [show k + 1 + (j - i) = k + (j - i) + 1 by omega]
        exact h2.symm
      · have : i = k + 1 := by omega
        rw [← this, show i + (j - i) = j by omega]
        exact eqs.symm
  exact no_round o q hI e r (fun k => (her k).1) (fun k => (her k).2.1) (fun k => (her k).2.2) i (j - i) (by omega) per
end LP
namespace LP
/-! ### what the end tells: a book's question -/
def e3 (x : Nat) : V3 := match x with
  | 0 => (1, 0, 0)
  | 1 => (0, 1, 0)
  | 2 => (0, 0, 1)
  | _ => (0, 0, 0)
def dot (a b : V3) : Int := a.1 * b.1 + a.2.1 * b.2.1 + a.2.2 * b.2.2
def tot (a : V3) : Int := a.1 + a.2.1 + a.2.2
def cross (a b : V3) : V3 := (a.2.1 * b.2.2 - a.2.2 * b.2.1, a.2.2 * b.1 - a.1 * b.2.2, a.1 * b.2.1 - a.2.1 * b.1)
def ngv (a : V3) : V3 := (-a.1, -a.2.1, -a.2.2)
def onev (m : Nat) : V3 := if m = 2 then (1, 1, 0) else (1, 1, 1)
/-- m outcomes, q quotes: the first number with 1 in each row, the quotes' gains, the rows' own numbers, the bounds -/
structure Shape (p : Prob) (q : Nat) (g : Nat → V3) (u : V3) : Prop where
  m : p.m = 2 ∨ p.m = 3
  n : p.n = 1 + q + p.m
  one : p.col 0 = onev p.m
  gain : ∀ j, j < q → p.col (1 + j) = g j
  own : ∀ x, x < p.m → p.col (1 + q + x) = e3 x
  bnd : p.col p.n = u
  art : p.m = 2 → p.col (p.n + 1) = e3 2
  c : ∀ j, p.c0 j = if j = 0 then -1 else 0
  g2 : p.m = 2 → ∀ j, j < q → (g j).2.2 = 0
  u2 : p.m = 2 → u.2.2 = 0
/-- chances that keep the quotes, not yet divided by their sum -/
structure Feas (m q : Nat) (g : Nat → V3) (x : V3) : Prop where
  nn : 0 ≤ x.1 ∧ 0 ≤ x.2.1 ∧ 0 ≤ x.2.2
  z : m = 2 → x.2.2 = 0
  pos : 0 < tot x
  keep : ∀ j, j < q → 0 ≤ dot (g j) x
variable {p : Prob} {q : Nat} {g : Nat → V3} {u : V3}
theorem Shape.ok (S : Shape p q g u) : Ok p := by
  refine ⟨S.m, fun h2 j hj => ?_, fun _ => by rw [S.c, if_neg (by omega)]⟩
  have hn := S.n
  by_cases h0 : j = 0
  · rw [h0, S.one]
    simp [onev, h2]
  · by_cases h1 : j < 1 + q
    · have := S.gain (j - 1) (by omega)
      rw [show 1 + (j - 1) = j by omega] at this
      rw [this]
      exact S.g2 h2 _ (by omega)
    · by_cases h3 : j < p.n
      · have := S.own (j - (1 + q)) (by omega)
        rw [show 1 + q + (j - (1 + q)) = j by omega] at this
        rw [this]
        have : j - (1 + q) = 0 ∨ j - (1 + q) = 1 := by omega
        rcases this with e | e <;> rw [e] <;> rfl
      · rw [show j = p.n by omega, S.bnd]
        exact S.u2 h2
/-- the start's basis: each row's own number -/
def st0 (p : Prob) (q : Nat) : St := (1 + q, 1 + q + 1, if p.m = 2 then p.n + 1 else 1 + q + 2)
theorem st0_cols (S : Shape p q g u) : p.col (st0 p q).1 = e3 0 ∧ p.col (st0 p q).2.1 = e3 1 ∧ p.col (st0 p q).2.2 = e3 2 := by
  have hm := S.m
  refine ⟨S.own 0 (by omega), S.own 1 (by omega), ?_⟩
  show p.col (if p.m = 2 then p.n + 1 else 1 + q + 2) = e3 2
  by_cases h2 : p.m = 2
  · rw [if_pos h2]
    exact S.art h2
  · rw [if_neg h2]
    exact S.own 2 (by omega)
theorem st0_tt (S : Shape p q g u) (j : Nat) : tt p (st0 p q) 0 j = (p.col j).1 ∧ tt p (st0 p q) 1 j = (p.col j).2.1 ∧ tt p (st0 p q) 2 j = (p.col j).2.2 ∧ dd p (st0 p q) = 1 ∧ ob p (st0 p q) j = p.c0 j := by
  obtain ⟨h0, h1, h2⟩ := st0_cols S
  have a0 : tt p (st0 p q) 0 j = (p.col j).1 := by
    show det3 (p.col j) (p.col (st0 p q).2.1) (p.col (st0 p q).2.2) = _
    rw [h1, h2]
    simp [det3, e3]
  have a1 : tt p (st0 p q) 1 j = (p.col j).2.1 := by
    show det3 (p.col (st0 p q).1) (p.col j) (p.col (st0 p q).2.2) = _
    rw [h0, h2]
    simp [det3, e3]
  have a2 : tt p (st0 p q) 2 j = (p.col j).2.2 := by
    show det3 (p.col (st0 p q).1) (p.col (st0 p q).2.1) (p.col j) = _
    rw [h0, h1]
    simp [det3, e3]
  have a3 : dd p (st0 p q) = 1 := by
    show det3 (p.col (st0 p q).1) (p.col (st0 p q).2.1) (p.col (st0 p q).2.2) = _
    rw [h0, h1, h2]
    simp [det3, e3]
  refine ⟨a0, a1, a2, a3, ?_⟩
  unfold ob
  have z0 : p.c0 (st0 p q).1 = 0 := by rw [S.c, if_neg]; show 1 + q ≠ 0; omega
  have z1 : p.c0 (st0 p q).2.1 = 0 := by rw [S.c, if_neg]; show 1 + q + 1 ≠ 0; omega
  have z2 : p.c0 (st0 p q).2.2 = 0 := by
    rw [S.c, if_neg]
    show (if p.m = 2 then p.n + 1 else 1 + q + 2) ≠ 0
    split <;> omega
  rw [a3, z0, z1, z2]
  simp
theorem st0_inv (S : Shape p q g u) (hu : 0 ≤ u.1 ∧ 0 ≤ u.2.1 ∧ 0 ≤ u.2.2) : Inv p (st0 p q) := by
  have hm := S.m
  have hn := S.n
  refine ⟨by rw [(st0_tt S 0).2.2.2.1]; omega, fun i hi => ?_, fun h2 => ?_, fun i hi => ?_⟩
  · have : i = 0 ∨ i = 1 ∨ i = 2 := by omega
    rcases this with rfl | rfl | rfl
    · show 1 + q < p.n
      omega
    · show 1 + q + 1 < p.n
      omega
    · show (if p.m = 2 then p.n + 1 else 1 + q + 2) < p.n
      rw [if_neg (by omega)]
      omega
  · show (if p.m = 2 then p.n + 1 else 1 + q + 2) = p.n + 1
    rw [if_pos h2]
  · obtain ⟨t0, t1, t2, _, _⟩ := st0_tt S p.n
    have : i = 0 ∨ i = 1 ∨ i = 2 := by omega
    rcases this with rfl | rfl | rfl
    · rw [t0, S.bnd]; exact hu.1
    · rw [t1, S.bnd]; exact hu.2.1
    · rw [t2, S.bnd]; exact hu.2.2
/-- the multiples of the rows -/
def yv (p : Prob) (q : Nat) (b : St) : V3 := (ob p b (1 + q), ob p b (1 + q + 1), if p.m = 2 then 0 else ob p b (1 + q + 2))
/-- each number of the last row by the multiples -/
theorem ob_y (S : Shape p q g u) {b : St} (I : Inv p b) (j : Nat) : ob p b j = p.c0 j * dd p b + dot (p.col j) (yv p q b) := by
  have hm := S.m
  have c1 : p.c0 (1 + q) = 0 := by rw [S.c, if_neg (by omega)]
  have c2 : p.c0 (1 + q + 1) = 0 := by rw [S.c, if_neg (by omega)]
  have o0 := S.own 0 (by omega)
  have o1 := S.own 1 (by omega)
  have o0 : p.col (1 + q) = e3 0 := o0
  -- the third multiple
  have e2 : (yv p q b).2.2 = - p.c0 b.1 * det3 (e3 2) (p.col b.2.1) (p.col b.2.2) - p.c0 b.2.1 * det3 (p.col b.1) (e3 2) (p.col b.2.2) - p.c0 b.2.2 * det3 (p.col b.1) (p.col b.2.1) (e3 2) := by
    show (if p.m = 2 then 0 else ob p b (1 + q + 2)) = _
    by_cases h2 : p.m = 2
    · rw [if_pos h2]
      have ha := I.art h2
      have hb := ob_basic p (b := b) (i := 2) (by omega)
      have : bi b 2 = b.2.2 := rfl
      rw [this, ha] at hb
      unfold ob at hb
      simp only [tt] at hb
      rw [S.ok.art h2, S.art h2, Int.zero_mul, ha, S.ok.art h2] at hb
      rw [ha, S.ok.art h2, Int.neg_mul]
      omega
    · rw [if_neg h2]
      have c3 : p.c0 (1 + q + 2) = 0 := by rw [S.c, if_neg (by omega)]
      unfold ob
      simp only [tt]
      rw [c3, S.own 2 (by omega)]
      grind
  have e0 : (yv p q b).1 = - p.c0 b.1 * det3 (e3 0) (p.col b.2.1) (p.col b.2.2) - p.c0 b.2.1 * det3 (p.col b.1) (e3 0) (p.col b.2.2) - p.c0 b.2.2 * det3 (p.col b.1) (p.col b.2.1) (e3 0) := by
    show ob p b (1 + q) = _
    unfold ob
    simp only [tt]
    rw [c1, o0]
    grind
  have e1 : (yv p q b).2.1 = - p.c0 b.1 * det3 (e3 1) (p.col b.2.1) (p.col b.2.2) - p.c0 b.2.1 * det3 (p.col b.1) (e3 1) (p.col b.2.2) - p.c0 b.2.2 * det3 (p.col b.1) (p.col b.2.1) (e3 1) := by
    show ob p b (1 + q + 1) = _
    unfold ob
    simp only [tt]
    rw [c2, o1]
    grind
  unfold dot
  rw [e0, e1, e2]
  unfold ob
  simp only [tt, dd, det3, e3]
  grind
theorem dot_one (m : Nat) (x : V3) (h : m = 2 → x.2.2 = 0) : dot (onev m) x = tot x := by
  unfold onev dot tot
  split
  · rename_i h2
    have := h h2
    simp only
    omega
  · simp
/-- the end where no number helps: the multiples keep all, and reach the value -/
theorem opt_feas (S : Shape p q g u) {b : St} (I : Inv p b) (h : ent p b = none) : Feas p.m q g (yv p q b) ∧ tot (yv p q b) = dd p b ∧ dot u (yv p q b) = ob p b p.n ∧
    ∃ i, i < p.m ∧ bi b i = 0 := by
  have hm := S.m
  have hn := S.n
  have nn : ∀ j, j < p.n → 0 ≤ ob p b j := fun j hj => ent_none p h hj
  have yz : p.m = 2 → (yv p q b).2.2 = 0 := fun h2 => by
    show (if p.m = 2 then 0 else ob p b (1 + q + 2)) = 0
    rw [if_pos h2]
  -- the first number is of the basis
  have h0 : ∃ i, i < p.m ∧ bi b i = 0 := by
    refine Classical.byContradiction fun hno => ?_
    have z : ∀ i, i < 3 → p.c0 (bi b i) = 0 := fun i hi => by
      rw [S.c]
      by_cases hlt : i < p.m
      · rw [if_neg fun e => hno ⟨i, hlt, e⟩]
      · have h2 : p.m = 2 := by omega
        have hi2 : i = 2 := by omega
        subst hi2
        have : bi b 2 = p.n + 1 := I.art h2
        rw [this, if_neg (by omega)]
    have := nn 0 (by omega)
    unfold ob at this
    have z0 : p.c0 b.1 = 0 := z 0 (by omega)
    have z1 : p.c0 b.2.1 = 0 := z 1 (by omega)
    have z2 : p.c0 b.2.2 = 0 := z 2 (by omega)
    rw [z0, z1, z2, S.c, if_pos rfl] at this
    have := I.pos
    omega
  obtain ⟨i, hi, hb⟩ := id h0
  have t : tot (yv p q b) = dd p b := by
    have e := ob_y S I 0
    have e0 := ob_basic p (b := b) (i := i) (by omega)
    rw [hb] at e0
    rw [e0, S.c, if_pos rfl, S.one, dot_one _ _ yz] at e
    omega
  refine ⟨⟨⟨?_, ?_, ?_⟩, yz, ?_, fun j hj => ?_⟩, t, ?_, h0⟩
  · exact nn _ (by omega)
  · exact nn _ (by omega)
  · show 0 ≤ (if p.m = 2 then 0 else ob p b (1 + q + 2))
    split
    · omega
    · exact nn _ (by omega)
  · rw [t]
    exact I.pos
  · have e := ob_y S I (1 + j)
    rw [S.c, if_neg (by omega), S.gain j hj] at e
    have := nn (1 + j) (by omega)
    omega
  · have e := ob_y S I p.n
    rw [S.c, if_neg (by omega), S.bnd] at e
    omega
/-- a column of the basis by the basis -/
theorem cramer (b : St) (j : Nat) (x : V3) : dot (p.col j) x * dd p b = dot (p.col b.1) x * tt p b 0 j + dot (p.col b.2.1) x * tt p b 1 j + dot (p.col b.2.2) x * tt p b 2 j := by
  unfold dot dd tt det3
  grind
theorem col_nn (S : Shape p q g u) {x : V3} (F : Feas p.m q g x) {j : Nat} (hj : j < p.n) : 0 ≤ dot (p.col j) x ∧ (j = 0 → dot (p.col j) x = tot x) := by
  have hn := S.n
  by_cases h0 : j = 0
  · rw [h0, S.one, dot_one _ _ F.z]
    exact ⟨Int.le_of_lt F.pos, fun _ => rfl⟩
  · refine ⟨?_, fun z => absurd z h0⟩
    by_cases h1 : j < 1 + q
    · have := S.gain (j - 1) (by omega)
      rw [show 1 + (j - 1) = j by omega] at this
      rw [this]
      exact F.keep _ (by omega)
    · have := S.own (j - (1 + q)) (by omega)
      rw [show 1 + q + (j - (1 + q)) = j by omega] at this
      rw [this]
      obtain ⟨n0, n1, n2⟩ := F.nn
      have hm := S.m
      have : j - (1 + q) = 0 ∨ j - (1 + q) = 1 ∨ j - (1 + q) = 2 := by omega
      rcases this with e | e | e <;> rw [e] <;> simp [dot, e3] <;> assumption
/-- the last row at j, along the basis: what the first number does -/
theorem ob_first (S : Shape p q g u) {b : St} (I : Inv p b) (j : Nat) : ob p b j = p.c0 j * dd p b + (if b.1 = 0 then tt p b 0 j else 0) + (if b.2.1 = 0 then tt p b 1 j else 0) + (if b.2.2 = 0 then tt p b 2 j else 0) := by
  unfold ob
  rw [S.c b.1, S.c b.2.1, S.c b.2.2]
  split <;> split <;> split <;> omega
/-- no chance goes below the value at the end -/
theorem opt_least (S : Shape p q g u) {b : St} (I : Inv p b) {x : V3} (F : Feas p.m q g x) : ob p b p.n * tot x ≤ dot u x * dd p b := by
  have hm := S.m
  have c := cramer (p := p) b p.n x
  rw [S.bnd] at c
  rw [c]
  have f := ob_first S I p.n
  rw [S.c, if_neg (by have := S.n; omega), Int.zero_mul, Int.zero_add] at f
  -- each part
  have part : ∀ i, i < 3 → (if bi b i = 0 then tt p b i p.n else 0) * tot x ≤ dot (p.col (bi b i)) x * tt p b i p.n := fun i hi => by
    by_cases hlt : i < p.m
    · have r := I.rhs i hlt
      obtain ⟨c1, c2⟩ := col_nn S F (I.lt i hlt)
      by_cases h0 : bi b i = 0
      · rw [if_pos h0, c2 h0, Int.mul_comm]
        exact Int.le_refl _
      · rw [if_neg h0, Int.zero_mul]
        exact Int.mul_nonneg c1 r
    · have h2 : p.m = 2 := by omega
      have hi2 : i = 2 := by omega
      subst hi2
      have ha : bi b 2 = p.n + 1 := I.art h2
      rw [if_neg (by omega), Int.zero_mul, ha, S.art h2]
      have : dot (e3 2) x = 0 := by
        simp [dot, e3]
        exact F.z h2
      rw [this, Int.zero_mul]
      exact Int.le_refl _
  have p0 : (if b.1 = 0 then tt p b 0 p.n else 0) * tot x ≤ dot (p.col b.1) x * tt p b 0 p.n := part 0 (by omega)
  have p1 : (if b.2.1 = 0 then tt p b 1 p.n else 0) * tot x ≤ dot (p.col b.2.1) x * tt p b 1 p.n := part 1 (by omega)
  have p2 : (if b.2.2 = 0 then tt p b 2 p.n else 0) * tot x ≤ dot (p.col b.2.2) x * tt p b 2 p.n := part 2 (by omega)
  rw [f, Int.add_mul, Int.add_mul]
  omega
/-- where a number grows for ever no chance keeps all -/
theorem unb_none (S : Shape p q g u) {b : St} (I : Inv p b) {s : Nat} (he : ent p b = some s) (hl : leav p b s = none) {x : V3} (F : Feas p.m q g x) : False := by
  have hm := S.m
  obtain ⟨e1, e2, _⟩ := ent_some p he
  have l := leav_none hl
  have c := cramer (p := p) b s x
  have f := ob_first S I s
  obtain ⟨s1, s2⟩ := col_nn S F e1
  have hd := I.pos
  have tp := F.pos
  have part : ∀ i, i < 3 → dot (p.col (bi b i)) x * tt p b i s ≤ (if bi b i = 0 then tt p b i s else 0) * tot x := fun i hi => by
    by_cases hlt : i < p.m
    · have r := l i hlt
      obtain ⟨c1, c2⟩ := col_nn S F (I.lt i hlt)
      by_cases h0 : bi b i = 0
      · rw [if_pos h0, c2 h0, Int.mul_comm]
        exact Int.le_refl _
      · rw [if_neg h0, Int.zero_mul]
        exact Int.mul_nonpos_of_nonneg_of_nonpos c1 r
    · have h2 : p.m = 2 := by omega
      have hi2 : i = 2 := by omega
      subst hi2
      have ha : bi b 2 = p.n + 1 := I.art h2
      rw [if_neg (by omega), Int.zero_mul, ha, S.art h2]
      have : dot (e3 2) x = 0 := by
        simp [dot, e3]
        exact F.z h2
      rw [this, Int.zero_mul]
      exact Int.le_refl _
  have p0 : dot (p.col b.1) x * tt p b 0 s ≤ (if b.1 = 0 then tt p b 0 s else 0) * tot x := part 0 (by omega)
  have p1 : dot (p.col b.2.1) x * tt p b 1 s ≤ (if b.2.1 = 0 then tt p b 1 s else 0) * tot x := part 1 (by omega)
  have p2 : dot (p.col b.2.2) x * tt p b 2 s ≤ (if b.2.2 = 0 then tt p b 2 s else 0) * tot x := part 2 (by omega)
  have sum : dot (p.col s) x * dd p b ≤ (ob p b s - p.c0 s * dd p b) * tot x := by
    rw [c, f]
    have : (p.c0 s * dd p b + (if b.1 = 0 then tt p b 0 s else 0) + (if b.2.1 = 0 then tt p b 1 s else 0) + (if b.2.2 = 0 then tt p b 2 s else 0) - p.c0 s * dd p b) * tot x =
      (if b.1 = 0 then tt p b 0 s else 0) * tot x + (if b.2.1 = 0 then tt p b 1 s else 0) * tot x + (if b.2.2 = 0 then tt p b 2 s else 0) * tot x := by
      rw [← Int.add_mul, ← Int.add_mul]
      congr 1
      omega
    rw [this]
    omega
  have neg : ob p b s * tot x < 0 := Int.mul_neg_of_neg_of_pos e2 tp
  rw [Int.sub_mul] at sum
  by_cases h0 : s = 0
  · rw [s2 h0, S.c, if_pos h0] at sum
    have : dd p b * tot x = tot x * dd p b := Int.mul_comm _ _
    have e : -1 * dd p b * tot x = - (dd p b * tot x) := by grind
    omega
  · rw [S.c, if_neg h0, Int.zero_mul, Int.zero_mul] at sum
    have := Int.mul_nonneg s1 (Int.le_of_lt hd)
    omega
end LP
end
section
set_option Elab.async false
set_option linter.all false
set_option maxRecDepth 100000
set_option maxHeartbeats 2000000
namespace Z
open PySem PySem.Spec PyProof.Rows L2
/-! ### data, and where it stands -/
/-- a table of the program: the instance, its list of lines, its list of the basis -/
structure TabC where
  a : Addr
  dx : Addr
  l : Addr
  b : Addr
  c : Addr
  many : Nat
  size : Nat
  unit : Int
  basis : List Int
  rows : List (List Int)
/-- what may change outside the view: the jar, a table -/
structure Jx where
  jar : Option Addr
  tab : Option TabC
def Jx.has (J : Jx) (x : Addr) : Prop := J.jar = some x ∨ ∃ t, J.tab = some t ∧ (x = t.a ∨ x = t.l ∨ x = t.b)
inductive D where
  | non
  | bl (b : Bool)
  | int (i : Int)
  | str (x : Str)
  | txt
  | tup (xs : List D)
  | lst (xs : List D)
  | book (k : Int) (q : List D)
  | ans (v : D)
  | jar
  | scr (ns : List Int)
  | tab (t : TabC)
  | tln (t : TabC)
  | tbs (t : TabC)
  | adr (x : Addr)
abbrev bookC (K : PySem.W.Frag) : Addr := He.ga K "Book"
abbrev ansC (K : PySem.W.Frag) : Addr := He.ga K "Answer"
mutual
def Den (K : PySem.W.Frag) (J : Jx) : D → Hp → V → Prop
  | .non, _, v => v = .non
  | .bl b, _, v => v = .bl b
  | .int i, _, v => v = .int i
  | .str x, _, v => v = .str x
  | .txt, _, v => ∃ x : Str, v = .str x ∧ x.length ≤ 100000
  | .tup ds, B, v => ∃ a vs, v = .ref a ∧ B a = some (.tup vs) ∧ Dens K J ds B vs
  | .lst ds, B, v => ∃ a vs, v = .ref a ∧ B a = some (.lst vs) ∧ Dens K J ds B vs
  | .book k q, B, v => ∃ a dx h t s vs, v = .ref a ∧ B a = some (.ins (bookC K) dx [("held", .ref h), ("words", .str s)]) ∧ B h = some (.tup [.int k, .ref t]) ∧ B t = some (.tup vs) ∧ Dens K J q B vs
  | .ans d, B, v => ∃ a dx x y z, v = .ref a ∧ B a = some (.ins (ansC K) dx [("value", x), ("numbers", y), ("multiples", z)]) ∧ Den K J d B x
  | .jar, _, v => ∃ j, J.jar = some j ∧ v = .ref j
  | .scr ns, B, v => ∃ a, v = .ref a ∧ SqL K B a (ns.map V.int)
  | .tab t, _, v => J.tab = some t ∧ t.c = He.ga K "Table" ∧ v = .ref t.a
  | .tln t, _, v => J.tab = some t ∧ v = .ref t.l
  | .tbs t, _, v => J.tab = some t ∧ v = .ref t.b
  | .adr x, _, v => v = .ref x
def Dens (K : PySem.W.Frag) (J : Jx) : List D → Hp → List V → Prop
  | [], _, vs => vs = []
  | d :: ds, B, vs => ∃ v r, vs = v :: r ∧ Den K J d B v ∧ Dens K J ds B r
end
section
variable {K : PySem.W.Frag} {J : Jx} {B B' H H' : Hp}
theorem Rd.same {a : Addr} {u : HO} (e : Same B B') (h : Rd B a u) : Rd B' a u := by
  rcases h with h | ⟨o, h⟩
  · exact .inl (e _ _ h)
  · exact .inr ⟨o, e _ _ h⟩
mutual
theorem Den.mono (e : Same B B') : ∀ {d : D} {v : V}, Den K J d B v → Den K J d B' v
  | .non, _, h => by unfold Den at h ⊢; exact h
  | .bl _, _, h => by unfold Den at h ⊢; exact h
  | .int _, _, h => by unfold Den at h ⊢; exact h
  | .str _, _, h => by unfold Den at h ⊢; exact h
  | .txt, _, h => by unfold Den at h ⊢; exact h
  | .tup ds, _, h => by
    unfold Den at h ⊢
    obtain ⟨a, vs, e1, e2, e3⟩ := h
    exact ⟨a, vs, e1, e _ _ e2, Dens.mono e e3⟩
  | .lst ds, _, h => by
    unfold Den at h ⊢
    obtain ⟨a, vs, e1, e2, e3⟩ := h
    exact ⟨a, vs, e1, e _ _ e2, Dens.mono e e3⟩
  | .book k q, _, h => by
    unfold Den at h ⊢
    obtain ⟨a, dx, x, t, s, vs, e1, e2, e3, e4, e5⟩ := h
    exact ⟨a, dx, x, t, s, vs, e1, e _ _ e2, e _ _ e3, e _ _ e4, Dens.mono e e5⟩
  | .ans d, _, h => by
    unfold Den at h ⊢
    obtain ⟨a, dx, x, y, z, e1, e2, e3⟩ := h
    exact ⟨a, dx, x, y, z, e1, e _ _ e2, Den.mono e e3⟩
  | .jar, _, h => by unfold Den at h ⊢; exact h
  | .tab _, _, h => by unfold Den at h ⊢; exact h
  | .tln _, _, h => by unfold Den at h ⊢; exact h
  | .tbs _, _, h => by unfold Den at h ⊢; exact h
  | .adr _, _, h => by unfold Den at h ⊢; exact h
  | .scr ns, _, h => by
    unfold Den at h ⊢
    obtain ⟨a, e1, e2⟩ := h
    exact ⟨a, e1, e.seq e2⟩
theorem Dens.mono (e : Same B B') : ∀ {ds : List D} {vs : List V}, Dens K J ds B vs → Dens K J ds B' vs
  | [], _, h => by unfold Dens at h ⊢; exact h
  | d :: ds, _, h => by
    unfold Dens at h ⊢
    obtain ⟨v, r, e1, e2, e3⟩ := h
    exact ⟨v, r, e1, Den.mono e e2, Dens.mono e e3⟩
end
theorem den_non {v : V} : Den K J .non B v ↔ v = .non := by unfold Den; exact Iff.rfl
theorem den_bl {b : Bool} {v : V} : Den K J (.bl b) B v ↔ v = .bl b := by unfold Den; exact Iff.rfl
theorem den_int {i : Int} {v : V} : Den K J (.int i) B v ↔ v = .int i := by unfold Den; exact Iff.rfl
theorem den_str {x : Str} {v : V} : Den K J (.str x) B v ↔ v = .str x := by unfold Den; exact Iff.rfl
theorem den_txt {v : V} : Den K J .txt B v ↔ ∃ x : Str, v = .str x ∧ x.length ≤ 100000 := by unfold Den; exact Iff.rfl
theorem den_tup {ds : List D} {v : V} : Den K J (.tup ds) B v ↔ ∃ a vs, v = .ref a ∧ B a = some (.tup vs) ∧ Dens K J ds B vs := by
  constructor <;> intro h
  · unfold Den at h; exact h
  · unfold Den; exact h
theorem den_lst {ds : List D} {v : V} : Den K J (.lst ds) B v ↔ ∃ a vs, v = .ref a ∧ B a = some (.lst vs) ∧ Dens K J ds B vs := by
  constructor <;> intro h
  · unfold Den at h; exact h
  · unfold Den; exact h
theorem den_jar {v : V} : Den K J .jar B v ↔ ∃ j, J.jar = some j ∧ v = .ref j := by unfold Den; exact Iff.rfl
theorem den_tab {t : TabC} {v : V} : Den K J (.tab t) B v ↔ J.tab = some t ∧ t.c = He.ga K "Table" ∧ v = .ref t.a := by unfold Den; exact Iff.rfl
theorem den_tln {t : TabC} {v : V} : Den K J (.tln t) B v ↔ J.tab = some t ∧ v = .ref t.l := by unfold Den; exact Iff.rfl
theorem den_tbs {t : TabC} {v : V} : Den K J (.tbs t) B v ↔ J.tab = some t ∧ v = .ref t.b := by unfold Den; exact Iff.rfl
theorem den_adr {x : Addr} {v : V} : Den K J (.adr x) B v ↔ v = .ref x := by unfold Den; exact Iff.rfl
theorem den_scr {ns : List Int} {v : V} : Den K J (.scr ns) B v ↔ ∃ a, v = .ref a ∧ SqL K B a (ns.map V.int) := by unfold Den; exact Iff.rfl
theorem den_book {k : Int} {q : List D} {v : V} : Den K J (.book k q) B v ↔ ∃ a dx h t s vs, v = .ref a ∧ B a = some (.ins (bookC K) dx [("held", .ref h), ("words", .str s)]) ∧ B h = some (.tup [.int k, .ref t]) ∧ B t = some (.tup vs) ∧ Dens K J q B vs := by
  constructor <;> intro h
  · unfold Den at h; exact h
  · unfold Den; exact h
theorem den_ans {d : D} {v : V} : Den K J (.ans d) B v ↔ ∃ a dx x y z, v = .ref a ∧ B a = some (.ins (ansC K) dx [("value", x), ("numbers", y), ("multiples", z)]) ∧ Den K J d B x := by
  constructor <;> intro h
  · unfold Den at h; exact h
  · unfold Den; exact h
theorem dens_nil {vs : List V} : Dens K J [] B vs ↔ vs = [] := by unfold Dens; exact Iff.rfl
theorem dens_cons {d : D} {ds : List D} {vs : List V} : Dens K J (d :: ds) B vs ↔ ∃ v r, vs = v :: r ∧ Den K J d B v ∧ Dens K J ds B r := by
  constructor <;> intro h
  · unfold Dens at h; exact h
  · unfold Dens; exact h
theorem Dens.length : ∀ {ds : List D} {vs : List V}, Dens K J ds B vs → vs.length = ds.length
  | [], _, h => by rw [dens_nil.mp h]; rfl
  | d :: ds, _, h => by
    obtain ⟨v, r, e, _, h2⟩ := dens_cons.mp h
    rw [e, List.length_cons, List.length_cons, Dens.length h2]
theorem Dens.get : ∀ {ds : List D} {vs : List V} {i : Nat} {d : D}, Dens K J ds B vs → ds[i]? = some d → ∃ v, vs[i]? = some v ∧ Den K J d B v
  | [], _, _, _, _, e => by simp at e
  | _ :: ds, _, 0, d, h, e => by
    obtain ⟨v, r, e1, h1, h2⟩ := dens_cons.mp h
    have : _ = d := Option.some.inj e
    subst this e1
    exact ⟨v, rfl, h1⟩
  | _ :: ds, _, i + 1, d, h, e => by
    obtain ⟨v, r, e1, h1, h2⟩ := dens_cons.mp h
    obtain ⟨u, e2, h3⟩ := Dens.get (i := i) h2 e
    subst e1
    exact ⟨u, e2, h3⟩
theorem Dens.get' : ∀ {ds : List D} {vs : List V} {i : Nat} {v : V}, Dens K J ds B vs → vs[i]? = some v → ∃ d, ds[i]? = some d ∧ Den K J d B v
  | [], _, _, _, h, e => by rw [dens_nil.mp h] at e; simp at e
  | d :: ds, _, 0, v, h, e => by
    obtain ⟨u, r, e1, h1, h2⟩ := dens_cons.mp h
    rw [e1] at e
    have : u = v := Option.some.inj e
    subst this
    exact ⟨d, rfl, h1⟩
  | _ :: ds, _, i + 1, v, h, e => by
    obtain ⟨u, r, e1, h1, h2⟩ := dens_cons.mp h
    rw [e1] at e
    exact Dens.get' (i := i) h2 e
theorem Dens.append : ∀ {ds es : List D} {vs us : List V}, Dens K J ds B vs → Dens K J es B us → Dens K J (ds ++ es) B (vs ++ us)
  | [], _, _, _, h, g => by rw [dens_nil.mp h]; exact g
  | d :: ds, es, _, us, h, g => by
    obtain ⟨v, r, e1, h1, h2⟩ := dens_cons.mp h
    subst e1
    exact dens_cons.mpr ⟨v, r ++ us, rfl, h1, Dens.append h2 g⟩
theorem Dens.take : ∀ {ds : List D} {vs : List V} (n : Nat), Dens K J ds B vs → Dens K J (ds.take n) B (vs.take n)
  | _, _, 0, _ => dens_nil.mpr rfl
  | [], _, n + 1, h => by rw [dens_nil.mp h]; exact dens_nil.mpr rfl
  | d :: ds, _, n + 1, h => by
    obtain ⟨v, r, e1, h1, h2⟩ := dens_cons.mp h
    subst e1
    exact dens_cons.mpr ⟨v, r.take n, rfl, h1, Dens.take n h2⟩
theorem Dens.drop : ∀ {ds : List D} {vs : List V} (n : Nat), Dens K J ds B vs → Dens K J (ds.drop n) B (vs.drop n)
  | _, _, 0, h => h
  | [], _, n + 1, h => by rw [dens_nil.mp h]; exact dens_nil.mpr rfl
  | d :: ds, _, n + 1, h => by
    obtain ⟨v, r, e1, h1, h2⟩ := dens_cons.mp h
    subst e1
    exact Dens.drop n h2
theorem Dens.set {d : D} {v : V} (g : Den K J d B v) : ∀ {ds : List D} {vs : List V} (i : Nat), Dens K J ds B vs → Dens K J (ds.set i d) B (vs.set i v)
  | [], _, _, h => by rw [dens_nil.mp h]; exact dens_nil.mpr rfl
  | _ :: ds, _, 0, h => by
    obtain ⟨u, r, e1, h1, h2⟩ := dens_cons.mp h
    subst e1
    exact dens_cons.mpr ⟨v, r, rfl, g, h2⟩
  | _ :: ds, _, i + 1, h => by
    obtain ⟨u, r, e1, h1, h2⟩ := dens_cons.mp h
    subst e1
    exact dens_cons.mpr ⟨u, r.set i v, rfl, h1, Dens.set g i h2⟩
theorem Dens.ints : ∀ {ns : List Int} {vs : List V}, Dens K J (ns.map D.int) B vs → vs = ns.map V.int
  | [], _, h => dens_nil.mp h
  | n :: ns, _, h => by
    obtain ⟨v, r, e1, h1, h2⟩ := dens_cons.mp h
    rw [e1, den_int.mp h1, Dens.ints h2]
    rfl
theorem Dens.of_ints : ∀ {ns : List Int}, Dens K J (ns.map D.int) B (ns.map V.int)
  | [] => dens_nil.mpr rfl
  | n :: ns => dens_cons.mpr ⟨_, _, rfl, den_int.mpr rfl, Dens.of_ints⟩
theorem Dens.bls : ∀ {ns : List Bool} {vs : List V}, Dens K J (ns.map D.bl) B vs → vs = ns.map V.bl
  | [], _, h => dens_nil.mp h
  | n :: ns, _, h => by
    obtain ⟨v, r, e1, h1, h2⟩ := dens_cons.mp h
    rw [e1, den_bl.mp h1, Dens.bls h2]
    rfl
theorem Dens.rep {ds : List D} {vs : List V} (h : Dens K J ds B vs) : ∀ k : Nat, Dens K J (List.replicate k ds).flatten B (List.replicate k vs).flatten
  | 0 => dens_nil.mpr rfl
  | k + 1 => by
    rw [List.replicate_succ, List.replicate_succ, List.flatten_cons, List.flatten_cons]
    exact h.append (Dens.rep h k)

/-! ### the view B within the heap H; the jar; what is owned -/
/-- the jar: three ints, the first from 0 on -/
def JarAt (H : Hp) (j : Addr) : Prop := ∃ a b c : Int, 0 ≤ a ∧ H j = some (.lst [.int a, .int b, .int c])
/-- a table as it stands -/
structure TabAt (B H : Hp) (t : TabC) : Prop where
  a : B t.a = none
  l : B t.l = none
  b : B t.b = none
  ha : H t.a = some (.ins t.c t.dx [("many", .int (t.many : Nat)), ("size", .int (t.size : Nat)), ("unit", .int t.unit), ("basis", .ref t.b), ("lines", .ref t.l)])
  hl : ∃ vs, H t.l = some (.lst vs) ∧ vs.length = t.rows.length ∧ ∀ (i : Nat) r, t.rows[i]? = some r → ∃ p, vs[i]? = some (.ref p) ∧ B p = some (.lst (r.map V.int))
  hb : H t.b = some (.lst (t.basis.map V.int))
  ne : t.l ≠ t.b
structure W (J : Jx) (B H : Hp) : Prop where
  s : Same B H
  j : ∀ j, J.jar = some j → B j = none ∧ JarAt H j
  t : ∀ t, J.tab = some t → TabAt B H t ∧ ∀ j, J.jar = some j → j ≠ t.a ∧ j ≠ t.l ∧ j ≠ t.b
structure Stp (J : Jx) (B H B' H' : Hp) : Prop where
  b : Same B B'
  w : W J B' H'
  own : ∀ a, J.jar ≠ some a → B a = none → H a ≠ none → B' a = none ∧ H' a = H a
theorem Stp.refl (w : W J B H) : Stp J B H B H := ⟨.refl _, w, fun a _ h _ => ⟨h, rfl⟩⟩
theorem Stp.trans {B1 H1 B2 H2 : Hp} (a : Stp J B H B1 H1) (b : Stp J B1 H1 B2 H2) : Stp J B H B2 H2 := by
  refine ⟨a.b.trans b.b, b.w, fun x hx h1 h2 => ?_⟩
  obtain ⟨e1, e2⟩ := a.own x hx h1 h2
  obtain ⟨e3, e4⟩ := b.own x hx e1 (by rw [e2]; exact h2)
  exact ⟨e3, e4.trans e2⟩
theorem W.free (w : W J B H) {p : Addr} (h : H p = none) : B p = none := w.s.free h
theorem W.has (w : W J B H) {x : Addr} (h : J.has x) : B x = none ∧ H x ≠ none := by
  rcases h with h | ⟨t, e, h⟩
  · obtain ⟨h1, a, b, c, _, h2⟩ := w.j x h
    exact ⟨h1, by rw [h2]; intro z; cases z⟩
  · have T := (w.t t e).1
    obtain ⟨vs, h1, _⟩ := T.hl
    rcases h with h | h | h <;> subst h
    · exact ⟨T.a, by rw [T.ha]; intro z; cases z⟩
    · exact ⟨T.l, by rw [h1]; intro z; cases z⟩
    · exact ⟨T.b, by rw [T.hb]; intro z; cases z⟩
theorem W.nh (w : W J B H) {x : Addr} (h : H x = none) : ¬ J.has x := fun z => (w.has z).2 h
theorem has_jar {x : Addr} (h : ¬ J.has x) : J.jar ≠ some x := fun e => h (.inl e)
/-- nothing of it is touched -/
theorem W.push (w : W J B H) (sb : Same B B') (s : Same B' H') (h : ∀ x, J.has x → B' x = none ∧ H' x = H x) : W J B' H' := by
  refine ⟨s, fun j e => ?_, fun t e => ?_⟩
  · obtain ⟨j1, a, b, c, h0, h1⟩ := w.j j e
    obtain ⟨k1, k2⟩ := h j (.inl e)
    exact ⟨k1, a, b, c, h0, k2.trans h1⟩
  · obtain ⟨T, nj⟩ := w.t t e
    obtain ⟨a1, a2⟩ := h t.a (.inr ⟨t, e, .inl rfl⟩)
    obtain ⟨l1, l2⟩ := h t.l (.inr ⟨t, e, .inr (.inl rfl)⟩)
    obtain ⟨b1, b2⟩ := h t.b (.inr ⟨t, e, .inr (.inr rfl)⟩)
    obtain ⟨vs, v1, v2, v3⟩ := T.hl
    exact ⟨⟨a1, l1, b1, a2.trans T.ha, ⟨vs, l2.trans v1, v2, fun i r hr => by
      obtain ⟨p, p1, p2⟩ := v3 i r hr
      exact ⟨p, p1, sb _ _ p2⟩⟩, b2.trans T.hb, T.ne⟩, nj⟩
theorem same_up {p : Addr} {o : HO} (e : Same B H) (h : B p = none) : Same B (upd H p o) := fun b x q => by
  rw [upd_ne (ne_of_none q h)]
  exact e _ _ q
theorem same_upd {p : Addr} {o : HO} (h : B p = none) : Same B (upd B p o) := same_up (.refl _) h
theorem same_upd2 {p : Addr} {o : HO} (e : Same B H) : Same (upd B p o) (upd H p o) := fun b x q => by
  by_cases h : b = p
  · subst h
    rw [upd_same] at q ⊢
    exact q
  · rw [upd_ne h] at q ⊢
    exact e _ _ q
/-- a new object, known -/
theorem Stp.new (w : W J B H) {p : Addr} {o : HO} (hp : H p = none) : Stp J B H (upd B p o) (upd H p o) := by
  have hb := w.free hp
  refine ⟨same_upd hb, w.push (same_upd hb) (same_upd2 w.s) fun x hx => ?_, fun a ha h1 h2 => ?_⟩
  · obtain ⟨e1, e2⟩ := w.has hx
    have ne : x ≠ p := fun z => e2 (by rw [z]; exact hp)
    exact ⟨by rw [upd_ne ne]; exact e1, by rw [upd_ne ne]⟩
  · have ne : a ≠ p := fun z => h2 (by rw [z]; exact hp)
    exact ⟨by rw [upd_ne ne]; exact h1, by rw [upd_ne ne]⟩
/-- a new object, owned -/
theorem Stp.newO (w : W J B H) {p : Addr} {o : HO} (hp : H p = none) : Stp J B H B (upd H p o) := by
  have hb := w.free hp
  refine ⟨.refl _, w.push (.refl _) (same_up w.s hb) fun x hx => ?_, fun a ha h1 h2 => ?_⟩
  · obtain ⟨e1, e2⟩ := w.has hx
    have ne : x ≠ p := fun z => e2 (by rw [z]; exact hp)
    exact ⟨e1, by rw [upd_ne ne]⟩
  · have ne : a ≠ p := fun z => h2 (by rw [z]; exact hp)
    exact ⟨h1, by rw [upd_ne ne]⟩
/-- an owned object is changed -/
theorem W.mut (w : W J B H) {p : Addr} {o : HO} (hb : B p = none) (hj : ¬ J.has p) : W J B (upd H p o) :=
  w.push (.refl _) (same_up w.s hb) fun x hx => ⟨(w.has hx).1, by rw [upd_ne fun z => hj (by rw [← z]; exact hx)]⟩
end

/-! ### judgements: by the weakest reading -/
def wpE (X : Cx) (e : Expr) : TE := fun σ H Q => ∀ (pins : List (Addr × Obj)) (s : Shared), Inv X pins σ H s → wpAny (model X.prog X.w) X.A (eval e X.env) (EP X pins σ Q) X.xe s
def wpT (X : Cx) (e : Expr) : TT := fun σ H Q => ∀ (pins : List (Addr × Obj)) (s : Shared), Inv X pins σ H s → wpAny (model X.prog X.w) X.A (isTrue e X.env (eval e X.env)) (TP X pins σ Q) X.xe s
def wpA (X : Cx) (es : List Expr) : TA := fun σ H Q => ∀ (pos : Pos) (pins : List (Addr × Obj)) (s : Shared), Inv X pins σ H s → wpAny (model X.prog X.w) X.A (spliced (backTo pos (starEach es X.env))) (AP X pins σ Q) X.xe s
def wpS (X : Cx) (st : Stmt) : TS := fun E σ H => ∀ (pins : List (Addr × Obj)) (s : Shared), Inv X pins σ H s → wpAny (model X.prog X.w) X.A (exec st X.env) (SP X pins E) X.xe s
def wpSs (X : Cx) (st : List Stmt) : TS := fun E σ H => ∀ (pins : List (Addr × Obj)) (s : Shared), Inv X pins σ H s → wpAny (model X.prog X.w) X.A (execs st X.env) (SP X pins E) X.xe s
section
variable {X : Cx} {e : Expr} {es : List Expr} {st : Stmt} {sts : List Stmt}
theorem wpE.pe : PE X e (wpE X e) := ⟨fun pins s _ _ _ I h => h pins s I⟩
theorem wpT.pt : PT X e (wpT X e) := ⟨fun pins s _ _ _ I h => h pins s I⟩
theorem wpA.pa : PA X es (wpA X es) := ⟨fun pos pins s _ _ _ I h => h pos pins s I⟩
theorem wpS.ps : PS X st (wpS X st) := ⟨fun pins s _ _ _ I h => h pins s I⟩
theorem wpSs.pss : PSs X sts (wpSs X sts) := ⟨fun pins s _ _ _ I h => h pins s I⟩
variable {σ : L2.St} {H : Hp}
theorem ofE {t : TE} (h : PE X e t) {Q : VK} (q : t σ H Q) : wpE X e σ H Q := fun pins s I => h.run pins s σ H Q I q
theorem ofT {t : TT} (h : PT X e t) {Q : Bool → Hp → Prop} (q : t σ H Q) : wpT X e σ H Q := fun pins s I => h.run pins s σ H Q I q
theorem ofA {t : TA} (h : PA X es t) {Q : List V → Hp → Prop} (q : t σ H Q) : wpA X es σ H Q := fun pos pins s I => h.run pos pins s σ H Q I q
theorem ofS {t : TS} (h : PS X st t) {E : Ends} (q : t E σ H) : wpS X st E σ H := fun pins s I => h.run pins s σ H E I q
theorem ofSs {t : TS} (h : PSs X sts t) {E : Ends} (q : t E σ H) : wpSs X sts E σ H := fun pins s I => h.run pins s σ H E I q
end
abbrev Gam := List (Option D)
structure Fit (K : PySem.W.Frag) (J : Jx) (Γ : Gam) (σ : L2.St) (B : Hp) : Prop where
  g : ∀ (i : Nat) (d : D), Γ[i]? = some (some d) → ∃ v, σ[i]? = some (some v) ∧ Den K J d B v
  l : σ.length = Γ.length
theorem Fit.mono {K : PySem.W.Frag} {J : Jx} {Γ : Gam} {σ : L2.St} {B B' : Hp} (f : Fit K J Γ σ B) (e : Same B B') : Fit K J Γ σ B' := ⟨fun i d h => by
  obtain ⟨v, h1, h2⟩ := f.g i d h
  exact ⟨v, h1, h2.mono e⟩, f.l⟩
/-- an expression, an owned new list, a test, arguments -/
def Ev (X : Cx) (J : Jx) (Γ : Gam) (e : Expr) (P : D → Prop) : Prop := ∀ (σ : L2.St) (B H : Hp), W J B H → Fit X.K J Γ σ B → ∀ Q : VK, (∀ d v B' H', P d → Stp J B H B' H' → Den X.K J d B' v → Q v H') → wpE X e σ H Q
def EvO (X : Cx) (J : Jx) (Γ : Gam) (e : Expr) (P : List D → Prop) : Prop := ∀ (σ : L2.St) (B H : Hp), W J B H → Fit X.K J Γ σ B → ∀ Q : VK, (∀ ds p vs B' H', P ds → Stp J B H B' H' → H p = none → B' p = none → ¬ J.has p → H' p = some (.lst vs) → Dens X.K J ds B' vs → Q (.ref p) H') → wpE X e σ H Q
def EvT (X : Cx) (J : Jx) (Γ : Gam) (e : Expr) (P : Bool → Prop) : Prop := ∀ (σ : L2.St) (B H : Hp), W J B H → Fit X.K J Γ σ B → ∀ Q : Bool → Hp → Prop, (∀ b B' H', P b → Stp J B H B' H' → Q b H') → wpT X e σ H Q
def EvA (X : Cx) (J : Jx) (Γ : Gam) (es : List Expr) (P : List D → Prop) : Prop := ∀ (σ : L2.St) (B H : Hp), W J B H → Fit X.K J Γ σ B → ∀ Q : List V → Hp → Prop, (∀ ds vs B' H', P ds → Stp J B H B' H' → Dens X.K J ds B' vs → Q vs H') → wpA X es σ H Q
section
variable {X : Cx} {J : Jx} {Γ : Gam} {e a b c : Expr} {es : List Expr} {pos : Pos} {P P' : D → Prop} {d : D}
theorem Ev.weak (h : Ev X J Γ e P) (k : ∀ d, P d → P' d) : Ev X J Γ e P' := fun σ B H w f Q q => h σ B H w f Q fun d v B' H' p => q d v B' H' (k d p)
theorem Ev.is {d d' : D} (h : Ev X J Γ e (· = d)) (k : d = d') : Ev X J Γ e (· = d') := h.weak fun _ p => p.trans k
theorem EvT.weak {P P' : Bool → Prop} (h : EvT X J Γ e P) (k : ∀ d, P d → P' d) : EvT X J Γ e P' := fun σ B H w f Q q => h σ B H w f Q fun d B' H' p => q d B' H' (k d p)
theorem EvO.weak {P P' : List D → Prop} (h : EvO X J Γ e P) (k : ∀ d, P d → P' d) : EvO X J Γ e P' := fun σ B H w f Q q => h σ B H w f Q fun ds p vs B' H' pp => q ds p vs B' H' (k ds pp)
theorem x_var (i : Nat) {x : Str} {p : Pos} (hN : X.N[i]? = some x := by rfl) (hv : Vis X.env.scope x := by first | exact Or.inl rfl | exact Or.inr (Or.inl rfl) | exact Or.inr (Or.inr rfl)) (hΓ : Γ[i]? = some (some d) := by rfl) (hd : (x == ("__debug__" : Str)) = false := by decide)
    (hcd : (x == ("__classdict__" : Str)) = false := by decide) : Ev X J Γ (.Name x p) (· = d) := fun σ B H w f Q q => by
  obtain ⟨v, h1, h2⟩ := f.g i d hΓ
  exact ofE (pe_var hN hv hd hcd) ⟨v, h1, q d v B H rfl (.refl w) h2⟩
theorem x_int {i : Int} {j p} : Ev X J Γ (.Constant (.int i) j p) (· = .int i) := fun σ B H w f Q q => ofE pe_int (q _ _ B H rfl (.refl w) (den_int.mpr rfl))
theorem x_bl {i : Bool} {j p} : Ev X J Γ (.Constant (.bool i) j p) (· = .bl i) := fun σ B H w f Q q => ofE pe_bl (q _ _ B H rfl (.refl w) (den_bl.mpr rfl))
theorem x_non {j p} : Ev X J Γ (.Constant .none j p) (· = .non) := fun σ B H w f Q q => ofE pe_non (q _ _ B H rfl (.refl w) (den_non.mpr rfl))
theorem x_str {i : Str} {j p} : Ev X J Γ (.Constant (.str i) j p) (· = .str i) := fun σ B H w f Q q => ofE pe_str (q _ _ B H rfl (.refl w) (den_str.mpr rfl))
theorem x_gint {x : Str} {i : Int} {t : Tok} {p : Pos} (hm : X.mg x = some (.int i t)) (hg : Gl X x := by rfl) (hd : (x == ("__debug__" : Str)) = false := by decide) : Ev X J Γ (.Name x p) (· = .int i) := fun σ B H w f Q q =>
  ofE (pe_glob hg hm (v := .int i) ⟨t, rfl⟩ hd) (q _ _ B H rfl (.refl w) (den_int.mpr rfl))
/-- two expressions in a row -/
theorem two {ta tb : TE} {PA PB : D → Prop} (ha : Ev X J Γ a PA) (hb : Ev X J Γ b PB) {σ : L2.St} {B H : Hp} (w : W J B H) (f : Fit X.K J Γ σ B) {R : V → V → Hp → Prop}
    (k : ∀ x y v u B' H', PA x → PB y → Stp J B H B' H' → Den X.K J x B' v → Den X.K J y B' u → R v u H') : wpE X a σ H fun v H1 => wpE X b σ H1 fun u H2 => R v u H2 :=
  ha σ B H w f _ fun x v B1 H1 px s1 dx => hb σ B1 H1 s1.w (f.mono s1.b) _ fun y u B2 H2 py s2 dy => k x y v u B2 H2 px py (s1.trans s2) (dx.mono s2.b) dy
/-- an operator on two ints -/
theorem x_opI {op : Operator} {C : Int → Int → Prop} {g : Int → Int → Int} (ho : OpR X (binaryOp op) (rI C fun i j => .int (g i j))) {PA PB : D → Prop} (ha : Ev X J Γ a PA) (hb : Ev X J Γ b PB)
    (k : ∀ x y, PA x → PB y → ∃ i j, x = .int i ∧ y = .int j ∧ C i j ∧ P (.int (g i j))) : Ev X J Γ (.BinOp a op b pos) P := fun σ B H w f Q q =>
  ofE (pe_op ho wpE.pe wpE.pe) (two (ta := wpE X a) (tb := wpE X b) ha hb w f fun x y v u B' H' px py s dx dy => by
    obtain ⟨i, j, rfl, rfl, hc, p⟩ := k x y px py
    exact ⟨i, j, den_int.mp dx, den_int.mp dy, hc, q _ _ B' H' p s (den_int.mpr rfl)⟩)
theorem x_opI0 {op : Operator} {g : Int → Int → Int} (ho : OpR X (binaryOp op) (rI0 fun i j => .int (g i j))) {PA PB : D → Prop} (ha : Ev X J Γ a PA) (hb : Ev X J Γ b PB)
    (k : ∀ x y, PA x → PB y → ∃ i j, x = .int i ∧ y = .int j ∧ P (.int (g i j))) : Ev X J Γ (.BinOp a op b pos) P := fun σ B H w f Q q =>
  ofE (pe_op ho wpE.pe wpE.pe) (two (ta := wpE X a) (tb := wpE X b) ha hb w f fun x y v u B' H' px py s dx dy => by
    obtain ⟨i, j, rfl, rfl, p⟩ := k x y px py
    exact ⟨i, j, den_int.mp dx, den_int.mp dy, q _ _ B' H' p s (den_int.mpr rfl)⟩)
theorem x_addP {PA PB : D → Prop} (ha : Ev X J Γ a PA) (hb : Ev X J Γ b PB) (k : ∀ x y, PA x → PB y → ∃ i j, x = .int i ∧ y = .int j ∧ P (.int (i + j))) : Ev X J Γ (.BinOp a .Add b pos) P := x_opI0 (g := fun i j => i + j) op_add ha hb k
theorem x_subP {PA PB : D → Prop} (ha : Ev X J Γ a PA) (hb : Ev X J Γ b PB) (k : ∀ x y, PA x → PB y → ∃ i j, x = .int i ∧ y = .int j ∧ P (.int (i - j))) : Ev X J Γ (.BinOp a .Sub b pos) P := x_opI0 (g := fun i j => i - j) op_sub ha hb k
variable {i j : Int}
theorem x_add (ha : Ev X J Γ a (· = .int i)) (hb : Ev X J Γ b (· = .int j)) : Ev X J Γ (.BinOp a .Add b pos) (· = .int (i + j)) := x_addP ha hb fun _ _ e1 e2 => ⟨i, j, e1, e2, rfl⟩
theorem x_sub (ha : Ev X J Γ a (· = .int i)) (hb : Ev X J Γ b (· = .int j)) : Ev X J Γ (.BinOp a .Sub b pos) (· = .int (i - j)) := x_subP ha hb fun _ _ e1 e2 => ⟨i, j, e1, e2, rfl⟩
theorem x_mul (ha : Ev X J Γ a (· = .int i)) (hb : Ev X J Γ b (· = .int j)) (hc : CMulW i j) : Ev X J Γ (.BinOp a .Mult b pos) (· = .int (i * j)) := x_opI (g := fun i j => i * j) op_mulW ha hb fun _ _ e1 e2 => ⟨i, j, e1, e2, hc, rfl⟩
theorem x_div (ha : Ev X J Γ a (· = .int i)) (hb : Ev X J Γ b (· = .int j)) (hc : CDivW i j) : Ev X J Γ (.BinOp a .FloorDiv b pos) (· = .int (i / j)) := x_opI (g := fun i j => i / j) op_fdivW ha hb fun _ _ e1 e2 => ⟨i, j, e1, e2, hc, rfl⟩
theorem x_mod (ha : Ev X J Γ a (· = .int i)) (hb : Ev X J Γ b (· = .int j)) (hc : 0 < j) : Ev X J Γ (.BinOp a .Mod b pos) (· = .int (i % j)) := x_opI (C := fun _ j => 0 < j) (g := fun i j => i % j) op_mod ha hb fun _ _ e1 e2 => ⟨i, j, e1, e2, hc, rfl⟩
theorem x_pow (ha : Ev X J Γ a (· = .int i)) (hb : Ev X J Γ b (· = .int j)) (hc : CPow i j) : Ev X J Γ (.BinOp a .Pow b pos) (· = .int (i ^ j.toNat)) := x_opI (C := CPow) (g := fun i j => i ^ j.toNat) op_pow ha hb fun _ _ e1 e2 => ⟨i, j, e1, e2, hc, rfl⟩
theorem x_neg (ha : Ev X J Γ a (· = .int i)) : Ev X J Γ (.UnaryOp .USub a pos) (· = .int (-i)) := fun σ B H w f Q q =>
  ofE (pe_un un_neg wpE.pe) (ha σ B H w f _ fun x v B1 H1 px s1 dx => ⟨i, by rw [px] at dx; exact den_int.mp dx, q _ _ B1 H1 rfl s1 (den_int.mpr rfl)⟩)
/-! comparisons of ints, as values and tests -/
theorem x_cmpI {op : CmpOp} {g : Int → Int → Bool} (ho : OpR X (compareOp op) (rI0 fun i j => .bl (g i j))) (ha : Ev X J Γ a (· = .int i)) (hb : Ev X J Γ b (· = .int j)) (hm : behindInMarks op b = false) : Ev X J Γ (.Compare a [op] [b] pos) (· = .bl (g i j)) := fun σ B H w f Q q =>
  ofE (pe_cmpR ho wpE.pe wpE.pe hm) (two (ta := wpE X a) (tb := wpE X b) ha hb w f fun x y v u B' H' px py s dx dy => by
    subst px py
    exact ⟨i, j, den_int.mp dx, den_int.mp dy, q _ _ B' H' rfl s (den_bl.mpr rfl)⟩)
theorem t_cmpI {op : CmpOp} {g : Int → Int → Bool} (ho : OpR X (compareOp op) (rI0 fun i j => .bl (g i j))) (ha : Ev X J Γ a (· = .int i)) (hb : Ev X J Γ b (· = .int j)) (hm : behindInMarks op b = false) : EvT X J Γ (.Compare a [op] [b] pos) (· = g i j) := fun σ B H w f Q q =>
  ofT (pt_cmpR ho wpE.pe wpE.pe hm) (two (ta := wpE X a) (tb := wpE X b) ha hb w f fun x y v u B' H' px py s dx dy => by
    subst px py
    exact ⟨i, j, den_int.mp dx, den_int.mp dy, _, rfl, q _ B' H' rfl s⟩)
theorem x_lt (ha : Ev X J Γ a (· = .int i)) (hb : Ev X J Γ b (· = .int j)) : Ev X J Γ (.Compare a [.Lt] [b] pos) (· = .bl (decide (i < j))) := x_cmpI (g := fun i j => decide (i < j)) op_lt ha hb (nomark _)
theorem t_lt (ha : Ev X J Γ a (· = .int i)) (hb : Ev X J Γ b (· = .int j)) : EvT X J Γ (.Compare a [.Lt] [b] pos) (· = decide (i < j)) := t_cmpI (g := fun i j => decide (i < j)) op_lt ha hb (nomark _)
theorem t_le (ha : Ev X J Γ a (· = .int i)) (hb : Ev X J Γ b (· = .int j)) : EvT X J Γ (.Compare a [.LtE] [b] pos) (· = decide (i ≤ j)) := t_cmpI (g := fun i j => decide (i ≤ j)) op_le ha hb (nomark _)
theorem t_gt (ha : Ev X J Γ a (· = .int i)) (hb : Ev X J Γ b (· = .int j)) : EvT X J Γ (.Compare a [.Gt] [b] pos) (· = decide (j < i)) := t_cmpI (g := fun i j => decide (j < i)) op_gt ha hb (nomark _)
theorem t_ge (ha : Ev X J Γ a (· = .int i)) (hb : Ev X J Γ b (· = .int j)) : EvT X J Γ (.Compare a [.GtE] [b] pos) (· = decide (j ≤ i)) := t_cmpI (g := fun i j => decide (j ≤ i)) op_ge ha hb (nomark _)
/-- == and != of scalars -/
def toV : D → Option V
  | .non => some .non
  | .bl b => some (.bl b)
  | .int i => some (.int i)
  | .str x => some (.str x)
  | _ => none
theorem den_toV {K : PySem.W.Frag} {B : Hp} {d : D} {v v' : V} (h : Den K J d B v) (e : toV d = some v') : v = v' := by
  cases d <;> simp only [toV, Option.some.injEq, reduceCtorEq] at e <;> subst e
  · exact den_non.mp h
  · exact den_bl.mp h
  · exact den_int.mp h
  · exact den_str.mp h
theorem x_eq {x y : D} {vx vy : V} (ha : Ev X J Γ a (· = x)) (hb : Ev X J Γ b (· = y)) (hx : toV x = some vx := by rfl) (hy : toV y = some vy := by rfl) (hs : scal vx vy = true := by rfl) : Ev X J Γ (.Compare a [.Eq] [b] pos) (· = .bl (decide (vx = vy))) := fun σ B H w f Q q =>
  ofE (pe_cmpR op_eq wpE.pe wpE.pe (nomark _)) (two (ta := wpE X a) (tb := wpE X b) ha hb w f fun x' y' v u B' H' px py s dx dy => by
    subst px py
    rw [den_toV dx hx, den_toV dy hy]
    exact ⟨hs, q _ _ B' H' rfl s (den_bl.mpr rfl)⟩)
theorem t_eq {x y : D} {vx vy : V} (ha : Ev X J Γ a (· = x)) (hb : Ev X J Γ b (· = y)) (hx : toV x = some vx := by rfl) (hy : toV y = some vy := by rfl) (hs : scal vx vy = true := by rfl) : EvT X J Γ (.Compare a [.Eq] [b] pos) (· = decide (vx = vy)) := fun σ B H w f Q q =>
  ofT (pt_cmpR op_eq wpE.pe wpE.pe (nomark _)) (two (ta := wpE X a) (tb := wpE X b) ha hb w f fun x' y' v u B' H' px py s dx dy => by
    subst px py
    rw [den_toV dx hx, den_toV dy hy]
    exact ⟨hs, _, rfl, q _ B' H' rfl s⟩)
theorem t_ne {x y : D} {vx vy : V} (ha : Ev X J Γ a (· = x)) (hb : Ev X J Γ b (· = y)) (hx : toV x = some vx := by rfl) (hy : toV y = some vy := by rfl) (hs : scal vx vy = true := by rfl) : EvT X J Γ (.Compare a [.NotEq] [b] pos) (· = !decide (vx = vy)) := fun σ B H w f Q q =>
  ofT (pt_cmpR op_ne wpE.pe wpE.pe (nomark _)) (two (ta := wpE X a) (tb := wpE X b) ha hb w f fun x' y' v u B' H' px py s dx dy => by
    subst px py
    rw [den_toV dx hx, den_toV dy hy]
    exact ⟨hs, _, rfl, q _ B' H' rfl s⟩)
/-- is None -/
def isNon : D → Bool
  | .non => true
  | _ => false
theorem den_isNon {K : PySem.W.Frag} {B : Hp} {d : D} {v : V} (h : Den K J d B v) : decide (v = .non) = isNon d := by
  cases d with
  | non => rw [den_non.mp h]; rfl
  | bl _ => rw [den_bl.mp h]; rfl
  | int _ => rw [den_int.mp h]; rfl
  | str _ => rw [den_str.mp h]; rfl
  | txt => obtain ⟨x, e, _⟩ := den_txt.mp h; rw [e]; rfl
  | tup _ => obtain ⟨a, vs, e, _⟩ := den_tup.mp h; rw [e]; rfl
  | lst _ => obtain ⟨a, vs, e, _⟩ := den_lst.mp h; rw [e]; rfl
  | book _ _ => obtain ⟨a, _, _, _, _, _, e, _⟩ := den_book.mp h; rw [e]; rfl
  | ans _ => obtain ⟨a, _, _, _, _, e, _⟩ := den_ans.mp h; rw [e]; rfl
  | jar => obtain ⟨a, _, e⟩ := den_jar.mp h; rw [e]; rfl
  | scr _ => obtain ⟨a, e, _⟩ := den_scr.mp h; rw [e]; rfl
  | tab _ => rw [(den_tab.mp h).2.2]; rfl
  | tln _ => rw [(den_tln.mp h).2]; rfl
  | tbs _ => rw [(den_tbs.mp h).2]; rfl
  | adr _ => rw [den_adr.mp h]; rfl
theorem t_isN {x : D} {j2 p2} (ha : Ev X J Γ a (· = x)) : EvT X J Γ (.Compare a [.Is] [.Constant .none j2 p2] pos) (· = isNon x) := fun σ B H w f Q q =>
  ofT (pt_cmpR op_isN wpE.pe pe_non (nomark _)) (ha σ B H w f _ fun x' v B1 H1 px s1 dx => ⟨rfl, by subst px; rw [den_isNon dx]; exact ⟨_, rfl, q _ B1 H1 rfl s1⟩⟩)
theorem x_notN {x : D} {j2 p2} (ha : Ev X J Γ a (· = x)) : Ev X J Γ (.Compare a [.IsNot] [.Constant .none j2 p2] pos) (· = .bl (!isNon x)) := fun σ B H w f Q q =>
  ofE (pe_cmpR op_notN wpE.pe pe_non (nomark _)) (ha σ B H w f _ fun x' v B1 H1 px s1 dx => ⟨rfl, by subst px; rw [den_isNon dx]; exact q _ _ B1 H1 rfl s1 (den_bl.mpr rfl)⟩)
/-! tests -/
theorem t_val {P : Bool → Prop} (h : Ev X J Γ a (fun d => ∃ b, d = .bl b ∧ P b)) (he : ∀ whole, isTrue a X.env whole = (do let v ← whole; standAt a.pos; holding [v] (truthy v)) := by intro _; rfl) : EvT X J Γ a P := fun σ B H w f Q q =>
  ofT (pt_val wpE.pe he) (h σ B H w f _ fun x v B1 H1 ⟨b, e, p⟩ s1 dx => by
    subst e
    exact ⟨b, den_bl.mp dx, q b B1 H1 p s1⟩)
theorem t_bl {k : Bool} (h : Ev X J Γ a (· = .bl k)) (he : ∀ whole, isTrue a X.env whole = (do let v ← whole; standAt a.pos; holding [v] (truthy v)) := by intro _; rfl) : EvT X J Γ a (· = k) := t_val (h.weak fun _ e => ⟨k, e, rfl⟩) he
theorem t_not {P : Bool → Prop} (h : EvT X J Γ a fun b => P (!b)) : EvT X J Γ (.UnaryOp .Not a pos) P := fun σ B H w f Q q =>
  ofT (pt_not wpT.pt) (h σ B H w f _ fun b B1 H1 p s1 => q _ B1 H1 p s1)
theorem t_notB {k : Bool} (h : EvT X J Γ a (· = k)) : EvT X J Γ (.UnaryOp .Not a pos) (· = !k) := t_not (h.weak fun _ e => by rw [e])
/-- a and b, a or b: two parts -/
theorem wT {P : Bool → Prop} (h : EvT X J Γ a P) {σ : L2.St} {B H : Hp} (w : W J B H) (f : Fit X.K J Γ σ B) {Q : Bool → Hp → Prop} (q : ∀ b B' H', P b → Stp J B H B' H' → Q b H') : wpT X a σ H Q := h σ B H w f Q q
theorem t_and {PA P : Bool → Prop} (ha : EvT X J Γ a PA) (hb : PA true → EvT X J Γ b P) (hf : PA false → P false) : EvT X J Γ (.BoolOp .And [a, b] pos) P := fun σ B H w f Q q =>
  ofT (PW.pt (pw_and wpT.pt (pw_and1 wpT.pt))) (ha σ B H w f _ fun k B1 H1 p s1 => by
    cases k with
    | true => exact iteT (hb p σ B1 H1 s1.w (f.mono s1.b) _ fun k B2 H2 p2 s2 => q k B2 H2 p2 (s1.trans s2))
    | false => exact iteF (q _ B1 H1 (hf p) s1))
theorem t_or {PA P : Bool → Prop} (ha : EvT X J Γ a PA) (hb : PA false → EvT X J Γ b P) (hf : PA true → P true) : EvT X J Γ (.BoolOp .Or [a, b] pos) P := fun σ B H w f Q q =>
  ofT (PW.pt (pw_or wpT.pt (pw_or1 wpT.pt))) (ha σ B H w f _ fun k B1 H1 p s1 => by
    cases k with
    | false => exact iteF (hb p σ B1 H1 s1.w (f.mono s1.b) _ fun k B2 H2 p2 s2 => q k B2 H2 p2 (s1.trans s2))
    | true => exact iteT (q _ B1 H1 (hf p) s1))
theorem t_or3 {PA PB P : Bool → Prop} (ha : EvT X J Γ a PA) (hb : PA false → EvT X J Γ b PB) (hc : PA false → PB false → EvT X J Γ c P) (hf : PA true → P true) (hg : PA false → PB true → P true) : EvT X J Γ (.BoolOp .Or [a, b, c] pos) P := fun σ B H w f Q q =>
  ofT (PW.pt (pw_or wpT.pt (pw_or wpT.pt (pw_or1 wpT.pt)))) (ha σ B H w f _ fun k B1 H1 p s1 => by
    cases k with
    | true => exact iteT (q _ B1 H1 (hf p) s1)
    | false => exact iteF (hb p σ B1 H1 s1.w (f.mono s1.b) _ fun k B2 H2 p2 s2 => by
        cases k with
        | true => exact iteT (q _ B2 H2 (hg p p2) (s1.trans s2))
        | false => exact iteF (hc p p2 σ B2 H2 s2.w (f.mono (s1.trans s2).b) _ fun k B3 H3 p3 s3 => q k B3 H3 p3 ((s1.trans s2).trans s3))))
/-- .. as values -/
theorem x_and {k : Bool} {P : D → Prop} (ha : Ev X J Γ a (· = .bl k)) (hb : k = true → Ev X J Γ b P) (hf : k = false → P (.bl false)) : Ev X J Γ (.BoolOp .And [a, b] pos) P := fun σ B H w f Q q =>
  ofE (pe_and wpE.pe (pe_one wpE.pe)) (ha σ B H w f _ fun x v B1 H1 p s1 dx => ⟨k, by subst p; exact den_bl.mp dx, by
    cases k with
    | true => exact iteT (hb rfl σ B1 H1 s1.w (f.mono s1.b) _ fun x v B2 H2 p2 s2 dx => q x v B2 H2 p2 (s1.trans s2) dx)
    | false => exact iteF (q _ _ B1 H1 (hf rfl) s1 (den_bl.mpr rfl))⟩)
theorem x_or {k : Bool} {P : D → Prop} (ha : Ev X J Γ a (· = .bl k)) (hb : k = false → Ev X J Γ b P) (hf : k = true → P (.bl true)) : Ev X J Γ (.BoolOp .Or [a, b] pos) P := fun σ B H w f Q q =>
  ofE (pe_or wpE.pe (pe_one wpE.pe)) (ha σ B H w f _ fun x v B1 H1 p s1 dx => ⟨k, by subst p; exact den_bl.mp dx, by
    cases k with
    | false => exact iteF (hb rfl σ B1 H1 s1.w (f.mono s1.b) _ fun x v B2 H2 p2 s2 dx => q x v B2 H2 p2 (s1.trans s2) dx)
    | true => exact iteT (q _ _ B1 H1 (hf rfl) s1 (den_bl.mpr rfl))⟩)
theorem x_not {k : Bool} (ha : Ev X J Γ a (· = .bl k)) : Ev X J Γ (.UnaryOp .Not a pos) (· = .bl (!k)) := fun σ B H w f Q q =>
  ofE (pe_not wpE.pe) (ha σ B H w f _ fun x v B1 H1 p s1 dx => ⟨k, by subst p; exact den_bl.mp dx, q _ _ B1 H1 rfl s1 (den_bl.mpr rfl)⟩)
theorem x_if {PT : Bool → Prop} (ht : EvT X J Γ c PT) (ha : PT true → Ev X J Γ a P) (hb : PT false → Ev X J Γ b P) : Ev X J Γ (.IfExp c a b pos) P := fun σ B H w f Q q =>
  ofE (pe_ifExp wpT.pt wpE.pe wpE.pe) (ht σ B H w f _ fun k B1 H1 p s1 => by
    cases k with
    | true => exact iteT (ha p σ B1 H1 s1.w (f.mono s1.b) _ fun x v B2 H2 p2 s2 dx => q x v B2 H2 p2 (s1.trans s2) dx)
    | false => exact iteF (hb p σ B1 H1 s1.w (f.mono s1.b) _ fun x v B2 H2 p2 s2 dx => q x v B2 H2 p2 (s1.trans s2) dx))
theorem x_chain {i j k : Int} (ha : Ev X J Γ a (· = .int i)) (hb : Ev X J Γ b (· = .int j)) (hc : Ev X J Γ c (· = .int k)) (hm : lastMarks [.LtE, .LtE] [b, c] = false := by with_unfolding_all rfl) :
    Ev X J Γ (.Compare a [.LtE, .LtE] [b, c] pos) (· = .bl (decide (i ≤ j) && decide (j ≤ k))) := fun σ B H w f Q q =>
  ofE (pe_chain op_le op_le wpE.pe wpE.pe wpE.pe hm) (two (ta := wpE X a) (tb := wpE X b) ha hb w f fun x y v u B1 H1 px py s1 dx dy => by
    subst px py
    refine ⟨i, j, den_int.mp dx, den_int.mp dy, _, rfl, ?_⟩
    refine ite2 (fun h => ?_) fun h => ?_
    · rw [h] at q
      exact hc σ B1 H1 s1.w (f.mono s1.b) _ fun z v' B2 H2 pz s2 dz => by
        subst pz
        exact ⟨j, k, den_int.mp dy, den_int.mp dz, q _ _ B2 H2 (by rw [Bool.true_and]) (s1.trans s2) (den_bl.mpr rfl)⟩
    · have h : decide (i ≤ j) = false := by simpa using h
      rw [h] at q
      exact q _ _ B1 H1 (by rw [Bool.false_and]) s1 (den_bl.mpr rfl))
/-! arguments, displays -/
theorem a_nil : EvA X J Γ [] (· = []) := fun σ B H w f Q q => ofA pa_nil (q _ _ B H rfl (.refl w) (dens_nil.mpr rfl))
theorem a_consP {PA : D → Prop} {PS P : List D → Prop} (ha : Ev X J Γ a PA) (hr : EvA X J Γ es PS) (k : ∀ d ds, PA d → PS ds → P (d :: ds)) (hs : starEach (a :: es) X.env = (false, eval a X.env) :: starEach es X.env := by rfl) : EvA X J Γ (a :: es) P := fun σ B H w f Q q =>
  ofA (pa_cons wpE.pe wpA.pa hs) (ha σ B H w f _ fun x v B1 H1 p s1 dx => hr σ B1 H1 s1.w (f.mono s1.b) _ fun ds vs B2 H2 ps s2 ds2 => q _ _ B2 H2 (k x ds p ps) (s1.trans s2) (dens_cons.mpr ⟨v, vs, rfl, dx.mono s2.b, ds2⟩))
theorem a_cons {d : D} {ds : List D} (ha : Ev X J Γ a (· = d)) (hr : EvA X J Γ es (· = ds)) (hs : starEach (a :: es) X.env = (false, eval a X.env) :: starEach es X.env := by rfl) : EvA X J Γ (a :: es) (· = d :: ds) := a_consP ha hr (fun _ _ e1 e2 => by rw [e1, e2]) hs
theorem small {n : Nat} (h : n ≤ 100000) : n ≤ sizeLine := Nat.le_trans h (by decide)
theorem small' {n : Nat} (h : n < 100000) : n < sizeLine := Nat.lt_of_lt_of_le h (by decide)
theorem x_tupP {PS : List D → Prop} {k} (h : EvA X J Γ es PS) (hp : ∀ ds, PS ds → ds.length ≤ 100000 ∧ P (.tup ds)) : Ev X J Γ (.Tuple es k pos) P := fun σ B H w f Q q =>
  ofE (pe_tup wpA.pa) (h σ B H w f _ fun ds vs B1 H1 ps s1 dd => ⟨by rw [dd.length]; exact small (hp ds ps).1, fun p hp1 => q _ _ _ _ (hp ds ps).2 (s1.trans (.new s1.w hp1)) (den_tup.mpr ⟨p, vs, rfl, upd_same, dd.mono (same_upd (s1.w.free hp1))⟩)⟩)
theorem x_tup {ds : List D} {k} (h : EvA X J Γ es (· = ds)) (hl : ds.length ≤ 100000 := by first | decide | simp) : Ev X J Γ (.Tuple es k pos) (· = .tup ds) := x_tupP h fun _ e => by rw [e]; exact ⟨hl, rfl⟩
theorem Stp.back2 {J : Jx} {B H B' H' : Hp} (s : Stp J B H B' H') {p : Addr} (hp : H' p = none) : H p = none := by
  cases e : H p with
  | none => rfl
  | some o =>
    have hne : H p ≠ none := by rw [e]; intro z; cases z
    by_cases hj : J.jar = some p
    · exact absurd hp (s.w.has (.inl hj)).2
    · cases hb : B p with
      | none =>
        have := (s.own p hj hb hne).2
        rw [hp, e] at this
        cases this
      | some u =>
        have := s.w.s _ _ (s.b _ _ hb)
        rw [hp] at this
        cases this
theorem Stp.back {J : Jx} {B H B' H' : Hp} (w : W J B H) (s : Stp J B H B' H') {p : Addr} (hp : H' p = none) : H p = none := s.back2 hp
theorem o_lstP {PS P : List D → Prop} (h : EvA X J Γ es PS) (hp : ∀ ds, PS ds → ds.length ≤ 100000 ∧ P ds) : EvO X J Γ (.List es pos) P := fun σ B H w f Q q =>
  ofE (pe_lst wpA.pa) (h σ B H w f _ fun ds vs B1 H1 ps s1 dd => ⟨by rw [dd.length]; exact small (hp ds ps).1, fun p hp1 => by
    have jn : ¬ J.has p := s1.w.nh hp1
    exact q ds p vs B1 _ (hp ds ps).2 (s1.trans (.newO s1.w hp1)) (Stp.back w s1 hp1) (s1.w.free hp1) jn upd_same dd⟩)
theorem o_lst {ds : List D} (h : EvA X J Γ es (· = ds)) (hl : ds.length ≤ 100000 := by first | decide | simp) : EvO X J Γ (.List es pos) (· = ds) := o_lstP h fun _ e => by rw [e]; exact ⟨hl, rfl⟩
/-- an owned list is known -/
theorem Stp.freeze {J : Jx} {B H B' H' : Hp} (w : W J B H) (s : Stp J B H B' H') {p : Addr} {vs : List V} (h0 : H p = none) (hb : B' p = none) (hj : ¬ J.has p) (h : H' p = some (.lst vs)) : Stp J B H (upd B' p (.lst vs)) H' := by
  refine ⟨s.b.trans (same_upd hb), s.w.push (same_upd hb) (fun b o e => ?_) (fun x hx => ?_), fun a ha h1 h2 => ?_⟩
  · by_cases z : b = p
    · subst z
      rw [upd_same] at e
      cases e
      exact h
    · rw [upd_ne z] at e
      exact s.w.s _ _ e
  · have ne : x ≠ p := fun z => hj (by rw [← z]; exact hx)
    exact ⟨by rw [upd_ne ne]; exact (s.w.has hx).1, rfl⟩
  · have ne : a ≠ p := fun z => h2 (by rw [z]; exact h0)
    obtain ⟨e1, e2⟩ := s.own a ha h1 h2
    exact ⟨by rw [upd_ne ne]; exact e1, e2⟩
theorem EvO.ev {PS : List D → Prop} (h : EvO X J Γ e PS) (k : ∀ ds, PS ds → P (.lst ds)) : Ev X J Γ e P := fun σ B H w f Q q =>
  h σ B H w f _ fun ds p vs B1 H1 ps s1 h0 hb hj hl dd => q _ _ (upd B1 p (.lst vs)) H1 (k ds ps) (s1.freeze w h0 hb hj hl) (den_lst.mpr ⟨p, vs, rfl, upd_same, dd.mono (same_upd hb)⟩)
theorem EvO.lst {ds : List D} (h : EvO X J Γ e (· = ds)) : Ev X J Γ e (· = .lst ds) := h.ev fun _ e => by rw [e]
end
end Z
end
section
set_option Elab.async false
set_option linter.all false
set_option maxRecDepth 100000
set_option maxHeartbeats 2000000
namespace Z
open PySem PySem.Spec PyProof.Rows L2
/-! ### statements -/
abbrev Sp3 : Type := L2.St → Hp → Hp → Prop
abbrev Rp : Type := V → Hp → Hp → Prop
def HB (X : Cx) (sts : List Stmt) (S N : Sp3) (R : Rp) : Prop := ∀ (σ : L2.St) (B H : Hp), S σ B H → ∀ E : Ends,
  (∀ σ' B' H', Same B B' → N σ' B' H' → E.nx σ' H') → (∀ v B' H', Same B B' → R v B' H' → E.rt v H') → wpSs X sts E σ H
abbrev Own : Type := List (Nat × List D)
structure OwnAt (K : PySem.W.Frag) (J : Jx) (H0 : Hp) (q : Nat × List D) (σ : L2.St) (B H : Hp) (a : Addr) (vs : List V) : Prop where
  at_ : σ[q.1]? = some (some (.ref a))
  nj : ¬ J.has a
  new : H0 a = none
  out : B a = none
  lst : H a = some (.lst vs)
  den : Dens K J q.2 B vs
/-- the state of a body: what has happened since the entry, the slots' data, the owned lists -/
structure S (K : PySem.W.Frag) (J : Jx) (B0 H0 : Hp) (Γ : Gam) (O : Own) (σ : L2.St) (B H : Hp) : Prop where
  st : Stp J B0 H0 B H
  fit : Fit K J Γ σ B
  own : ∀ q ∈ O, ∃ a vs, OwnAt K J H0 q σ B H a vs
  dj : ∀ q ∈ O, ∀ r ∈ O, q.1 ≠ r.1 → ∀ a : Addr, σ[q.1]? = some (some (.ref a)) → σ[r.1]? ≠ some (some (.ref a))
  len : σ.length = Γ.length
/-- forget -/
def Sub (Γ' Γ : Gam) : Prop := Γ'.length = Γ.length ∧ ∀ (i : Nat) (d : D), Γ'[i]? = some (some d) → Γ[i]? = some (some d)
theorem Sub.refl (Γ : Gam) : Sub Γ Γ := ⟨rfl, fun _ _ h => h⟩
theorem sub_nil : Sub [] [] := ⟨rfl, fun _ _ h => h⟩
theorem sub_none {x : Option D} {Γ' Γ : Gam} (h : Sub Γ' Γ) : Sub (none :: Γ') (x :: Γ) := ⟨by rw [List.length_cons, List.length_cons, h.1], fun i d e => by
  cases i with
  | zero => cases e
  | succ i => exact h.2 i d e⟩
theorem sub_same {x : Option D} {Γ' Γ : Gam} (h : Sub Γ' Γ) : Sub (x :: Γ') (x :: Γ) := ⟨by rw [List.length_cons, List.length_cons, h.1], fun i d e => by
  cases i with
  | zero => exact e
  | succ i => exact h.2 i d e⟩
section
variable {K : PySem.W.Frag} {J : Jx} {B0 H0 B H B' H' : Hp} {Γ Γ' : Gam} {O O' : Own} {σ : L2.St}
theorem S.sub (s : S K J B0 H0 Γ O σ B H) (h : Sub Γ' Γ) (hO : ∀ q ∈ O', q ∈ O := by simp) : S K J B0 H0 Γ' O' σ B H :=
  ⟨s.st, ⟨fun i d e => s.fit.g i d (h.2 i d e), by rw [h.1]; exact s.len⟩, fun q hq => s.own q (hO q hq), fun q hq r hr => s.dj q (hO q hq) r (hO r hr), by rw [h.1]; exact s.len⟩
theorem S.w (s : S K J B0 H0 Γ O σ B H) : W J B H := s.st.w
/-- behind an expression -/
theorem S.step (s : S K J B0 H0 Γ O σ B H) (t : Stp J B H B' H') : S K J B0 H0 Γ O σ B' H' :=
  ⟨s.st.trans t, s.fit.mono t.b, fun q hq => by
    obtain ⟨a, vs, o⟩ := s.own q hq
    obtain ⟨e1, e2⟩ := t.own a (has_jar o.nj) o.out (by rw [o.lst]; intro z; cases z)
    exact ⟨a, vs, o.at_, o.nj, o.new, e1, e2.trans o.lst, o.den.mono t.b⟩, s.dj, s.len⟩
theorem get_set {α : Type} {l : List α} {i k : Nat} {x : α} : (l.set i x)[k]? = if i = k then (if i < l.length then some x else none) else l[k]? := by
  rw [List.getElem?_set]
/-- a name is stored -/
theorem S.set (s : S K J B0 H0 Γ O σ B H) {i : Nat} {d : D} {v : V} (hv : Den K J d B v) (hO : ∀ q ∈ O', q ∈ O ∧ q.1 ≠ i) : S K J B0 H0 (Γ.set i (some d)) O' (σ.set i (some v)) B H := by
  have e : ∀ k, i ≠ k → (σ.set i (some v))[k]? = σ[k]? := fun k h => List.getElem?_set_ne h
  refine ⟨s.st, ⟨fun k d' h => ?_, by rw [List.length_set, List.length_set]; exact s.len⟩, fun q hq => ?_, fun q hq r hr ne a h1 => ?_, by rw [List.length_set, List.length_set]; exact s.len⟩
  · rw [get_set] at h
    by_cases hk : i = k
    · subst hk
      rw [if_pos rfl] at h
      by_cases hl : i < Γ.length
      · rw [if_pos hl] at h
        have : d = d' := by injection h with h; injection h
        subst this
        exact ⟨v, by rw [get_set, if_pos rfl, if_pos (by rw [s.len]; exact hl)], hv⟩
      · rw [if_neg hl] at h
        cases h
    · rw [if_neg hk] at h
      obtain ⟨u, h1, h2⟩ := s.fit.g k d' h
      exact ⟨u, by rw [e k hk]; exact h1, h2⟩
  · obtain ⟨h1, h2⟩ := hO q hq
    obtain ⟨a, vs, o⟩ := s.own q h1
    exact ⟨a, vs, by rw [e _ (Ne.symm h2)]; exact o.at_, o.nj, o.new, o.out, o.lst, o.den⟩
  · obtain ⟨a1, a2⟩ := hO q hq
    obtain ⟨b1, b2⟩ := hO r hr
    rw [e _ (Ne.symm a2)] at h1
    rw [e _ (Ne.symm b2)]
    exact s.dj q a1 r b1 ne a h1
/-- a new list of one's own is stored -/
theorem S.setO (s : S K J B0 H0 Γ O σ B H) {i : Nat} {ds : List D} {p : Addr} {vs : List V} (t : Stp J B H B' H') (hp : H p = none) (hb : B' p = none) (hj : ¬ J.has p) (hl : H' p = some (.lst vs)) (hd : Dens K J ds B' vs) (hi : i < Γ.length) (hO : ∀ q ∈ O', q ∈ O ∧ q.1 ≠ i) :
    S K J B0 H0 (Γ.set i none) ((i, ds) :: O') (σ.set i (some (.ref p))) B' H' := by
  have s' := s.step t
  have e : ∀ k, i ≠ k → (σ.set i (some (.ref p)))[k]? = σ[k]? := fun k h => List.getElem?_set_ne h
  have ei : (σ.set i (some (.ref p)))[i]? = some (some (V.ref p)) := by rw [get_set, if_pos rfl, if_pos (by rw [s.len]; exact hi)]
  have old : ∀ q ∈ O', ∃ a vs, OwnAt K J H0 q (σ.set i (some (.ref p))) B' H' a vs ∧ a ≠ p := fun q hq => by
    obtain ⟨h1, h2⟩ := hO q hq
    obtain ⟨a, vs, o⟩ := s'.own q h1
    obtain ⟨a1, vs1, o1⟩ := s.own q h1
    have ea : a1 = a := by
      have := o1.at_.symm.trans o.at_
      injection this with this
      injection this with this
      injection this
    refine ⟨a, vs, ⟨by rw [e _ (Ne.symm h2)]; exact o.at_, o.nj, o.new, o.out, o.lst, o.den⟩, fun z => ?_⟩
    have := o1.lst
    rw [ea, z, hp] at this
    cases this
  refine ⟨s'.st, ⟨fun k d' h => ?_, by rw [List.length_set, List.length_set]; exact s.len⟩, fun q hq => ?_, fun q hq r hr ne a h1 => ?_, by rw [List.length_set, List.length_set]; exact s.len⟩
  · rw [get_set] at h
    by_cases hk : i = k
    · subst hk
      rw [if_pos rfl, if_pos hi] at h
      injection h with h
      cases h
    · rw [if_neg hk] at h
      obtain ⟨u, h1, h2⟩ := s'.fit.g k d' h
      exact ⟨u, by rw [e k hk]; exact h1, h2⟩
  · rcases List.mem_cons.mp hq with h | h
    · subst h
      exact ⟨p, vs, ei, hj, s.st.back2 hp, hb, hl, hd⟩
    · obtain ⟨a, vs, o, _⟩ := old q h
      exact ⟨a, vs, o⟩
  · rcases List.mem_cons.mp hq with h | h <;> rcases List.mem_cons.mp hr with h' | h'
    · subst h h'
      exact absurd rfl ne
    · subst h
      obtain ⟨a2, vs2, o2, n2⟩ := old r h'
      intro z
      have h1 : (σ.set i (some (.ref p)))[i]? = some (some (.ref a)) := h1
      rw [ei] at h1
      injection h1 with h1; injection h1 with h1; injection h1 with h1
      rw [o2.at_] at z
      injection z with z; injection z with z; injection z with z
      exact n2 (z.trans h1.symm)
    · subst h'
      obtain ⟨a2, vs2, o2, n2⟩ := old q h
      intro z
      have z : (σ.set i (some (.ref p)))[i]? = some (some (.ref a)) := z
      rw [ei] at z
      injection z with z; injection z with z; injection z with z
      rw [o2.at_] at h1
      injection h1 with h1; injection h1 with h1; injection h1 with h1
      exact n2 (h1.trans z.symm)
    · obtain ⟨a1, a2⟩ := hO q h
      obtain ⟨b1, b2⟩ := hO r h'
      rw [e _ (Ne.symm a2)] at h1
      rw [e _ (Ne.symm b2)]
      exact s.dj q a1 r b1 ne a h1
/-- the owned list at i is changed -/
theorem S.mut (s : S K J B0 H0 Γ ((i, ds) :: O) σ B H) {a : Addr} {vs : List V} (o : OwnAt K J H0 (i, ds) σ B H a vs) {es : List D} {us : List V} (hd : Dens K J es B us) (hn : ∀ q ∈ O, q.1 ≠ i) :
    S K J B0 H0 Γ ((i, es) :: O) σ B (upd H a (.lst us)) := by
  have w := s.w
  refine ⟨⟨s.st.b, w.mut o.out o.nj, fun x hx h1 h2 => ?_⟩, s.fit, fun q hq => ?_, fun q hq r hr ne x h1 => ?_, s.len⟩
  · have ne : x ≠ a := fun z => h2 (by rw [z]; exact o.new)
    obtain ⟨e1, e2⟩ := s.st.own x hx h1 h2
    exact ⟨e1, by rw [upd_ne ne]; exact e2⟩
  · rcases List.mem_cons.mp hq with h | h
    · subst h
      exact ⟨a, us, o.at_, o.nj, o.new, o.out, upd_same, hd⟩
    · obtain ⟨a2, vs2, o2⟩ := s.own q (List.mem_cons_of_mem _ h)
      have ne : a2 ≠ a := fun z => s.dj (i, ds) List.mem_cons_self q (List.mem_cons_of_mem _ h) (Ne.symm (hn q h)) a o.at_ (by rw [o2.at_, z])
      exact ⟨a2, vs2, o2.at_, o2.nj, o2.new, o2.out, by rw [upd_ne ne]; exact o2.lst, o2.den⟩
  · have m : ∀ q ∈ (i, es) :: O, ∃ q' ∈ (i, ds) :: O, q'.1 = q.1 := fun q hq => by
      rcases List.mem_cons.mp hq with h | h
      · subst h
        exact ⟨(i, ds), List.mem_cons_self, rfl⟩
      · exact ⟨q, List.mem_cons_of_mem _ h, rfl⟩
    obtain ⟨q', hq', eq⟩ := m q hq
    obtain ⟨r', hr', er⟩ := m r hr
    rw [← eq] at h1 ne
    rw [← er] at ne ⊢
    exact s.dj q' hq' r' hr' ne x h1
/-- the owned list at i is known from now on -/
theorem S.frz (s : S K J B0 H0 Γ ((i, ds) :: O) σ B H) (hn : ∀ q ∈ O, q.1 ≠ i) : ∃ B', Same B B' ∧ S K J B0 H0 (Γ.set i (some (.lst ds))) O σ B' H := by
  obtain ⟨a, vs, o⟩ := s.own (i, ds) List.mem_cons_self
  have w := s.w
  refine ⟨upd B a (.lst vs), same_upd o.out, ⟨⟨s.st.b.trans (same_upd o.out), w.push (same_upd o.out) (fun b u e => ?_) (fun x hx => ?_), fun x hx h1 h2 => ?_⟩, ⟨fun k d' h => ?_, by rw [List.length_set]; exact s.len⟩, fun q hq => ?_, fun q hq r hr => s.dj q (List.mem_cons_of_mem _ hq) r (List.mem_cons_of_mem _ hr), by rw [List.length_set]; exact s.len⟩⟩
  · by_cases z : b = a
    · subst z
      rw [upd_same] at e
      cases e
      exact o.lst
    · rw [upd_ne z] at e
      exact w.s _ _ e
  · have ne : x ≠ a := fun z => o.nj (by rw [← z]; exact hx)
    exact ⟨by rw [upd_ne ne]; exact (w.has hx).1, rfl⟩
  · have ne : x ≠ a := fun z => h2 (by rw [z]; exact o.new)
    obtain ⟨e1, e2⟩ := s.st.own x hx h1 h2
    exact ⟨by rw [upd_ne ne]; exact e1, e2⟩
  · rw [get_set] at h
    by_cases hk : i = k
    · subst hk
      rw [if_pos rfl] at h
      split at h
      · have : D.lst ds = d' := by injection h with h; injection h
        subst this
        exact ⟨.ref a, o.at_, den_lst.mpr ⟨a, vs, rfl, upd_same, o.den.mono (same_upd o.out)⟩⟩
      · cases h
    · rw [if_neg hk] at h
      obtain ⟨u, h1, h2⟩ := s.fit.g k d' h
      exact ⟨u, h1, h2.mono (same_upd o.out)⟩
  · obtain ⟨a2, vs2, o2⟩ := s.own q (List.mem_cons_of_mem _ hq)
    have ne : a2 ≠ a := fun z => s.dj (i, ds) List.mem_cons_self q (List.mem_cons_of_mem _ hq) (Ne.symm (hn q hq)) a o.at_ (by rw [o2.at_, z])
    exact ⟨a2, vs2, o2.at_, o2.nj, o2.new, by rw [upd_ne ne]; exact o2.out, o2.lst, o2.den.mono (same_upd o.out)⟩
/-- .. and back: what was asked meanwhile left all as it was -/
theorem S.thaw (s : S K J B0 H0 Γ ((i, ds) :: O) σ B H) {a : Addr} {vs : List V} (o : OwnAt K J H0 (i, ds) σ B H a vs) (hn : ∀ q ∈ O, q.1 ≠ i) (t : Stp J (upd B a (.lst vs)) H B' H') : S K J B0 H0 Γ ((i, ds) :: O) σ (fun x => if x = a then none else B' x) H' := by
  have w := s.w
  have sb : Same B (fun x => if x = a then none else B' x) := fun b u e => by
    have ne : b ≠ a := fun z => by
      rw [z, o.out] at e
      cases e
    show (if b = a then none else B' b) = some u
    rw [if_neg ne]
    refine t.b _ _ ?_
    rw [upd_ne ne]
    exact e
  have sh : Same (fun x => if x = a then none else B' x) H' := fun b u e => by
    have e : (if b = a then none else B' b) = some u := e
    by_cases z : b = a
    · rw [if_pos z] at e
      cases e
    · rw [if_neg z] at e
      exact t.w.s _ _ e
  have la : H' a = some (.lst vs) := t.w.s _ _ (t.b _ _ upd_same)
  have cut : ∀ x, B' x = none → (if x = a then none else B' x) = none := fun x h => by
    split
    · rfl
    · exact h
  have tb : ∀ tt, J.tab = some tt → ∀ x, (x = tt.a ∨ x = tt.l ∨ x = tt.b) → B' x = none ∧ H' x = H x := fun tt e x hx => by
    have hh : J.has x := .inr ⟨tt, e, hx⟩
    have ne : x ≠ a := fun z => o.nj (by rw [← z]; exact hh)
    have nj := (w.t tt e).2
    refine t.own x (fun z => ?_) (by rw [upd_ne ne]; exact (w.has hh).1) (w.has hh).2
    obtain ⟨n1, n2, n3⟩ := nj x z
    rcases hx with h | h | h
    · exact n1 h
    · exact n2 h
    · exact n3 h
  have w2 : W J (fun x => if x = a then none else B' x) H' := by
    refine ⟨sh, fun j e => ?_, fun tt e => ?_⟩
    · obtain ⟨j1, j2⟩ := t.w.j j e
      exact ⟨cut j j1, j2⟩
    · obtain ⟨T, nj⟩ := w.t tt e
      obtain ⟨a1, a2⟩ := tb tt e tt.a (.inl rfl)
      obtain ⟨l1, l2⟩ := tb tt e tt.l (.inr (.inl rfl))
      obtain ⟨b1, b2⟩ := tb tt e tt.b (.inr (.inr rfl))
      obtain ⟨us, v1, v2, v3⟩ := T.hl
      exact ⟨⟨cut _ a1, cut _ l1, cut _ b1, a2.trans T.ha, ⟨us, l2.trans v1, v2, fun i r hr => by
        obtain ⟨p, p1, p2⟩ := v3 i r hr
        exact ⟨p, p1, sb _ _ p2⟩⟩, b2.trans T.hb, T.ne⟩, nj⟩
  refine ⟨⟨s.st.b.trans sb, w2, fun x hx h1 h2 => ?_⟩, s.fit.mono sb, fun q hq => ?_, s.dj, s.len⟩
  · have ne : x ≠ a := fun z => h2 (by rw [z]; exact o.new)
    obtain ⟨e1, e2⟩ := s.st.own x hx h1 h2
    obtain ⟨e3, e4⟩ := t.own x hx (by rw [upd_ne ne]; exact e1) (by rw [e2]; exact h2)
    refine ⟨?_, e4.trans e2⟩
    show (if x = a then none else B' x) = none
    rw [if_neg ne]
    exact e3
  · rcases List.mem_cons.mp hq with h | h
    · subst h
      refine ⟨a, vs, o.at_, o.nj, o.new, ?_, la, o.den.mono sb⟩
      show (if a = a then none else B' a) = none
      rw [if_pos rfl]
    · obtain ⟨a2, vs2, o2⟩ := s.own q (List.mem_cons_of_mem _ h)
      have ne : a2 ≠ a := fun z => s.dj (i, ds) List.mem_cons_self q (List.mem_cons_of_mem _ h) (Ne.symm (hn q h)) a o.at_ (by rw [o2.at_, z])
      obtain ⟨e3, e4⟩ := t.own a2 (has_jar o2.nj) (by rw [upd_ne ne]; exact o2.out) (by rw [o2.lst]; intro z; cases z)
      refine ⟨a2, vs2, o2.at_, o2.nj, o2.new, ?_, e4.trans o2.lst, o2.den.mono sb⟩
      show (if a2 = a then none else B' a2) = none
      rw [if_neg ne]
      exact e3
end

section
variable {X : Cx} {J : Jx} {B0 H0 : Hp} {Γ Γ' : Gam} {O O' : Own} {N M : Sp3} {R : Rp} {st : Stmt} {rest body : List Stmt} {e c a b : Expr} {pos : Pos} {P : D → Prop}
abbrev SX (X : Cx) (J : Jx) (B0 H0 : Hp) (Γ : Gam) (O : Own) : Sp3 := S X.K J B0 H0 Γ O
theorem HB.pre {S0 S1 : Sp3} {sts : List Stmt} (h : HB X sts S1 N R) (k : ∀ σ B H, S0 σ B H → S1 σ B H) : HB X sts S0 N R := fun σ B H s => h σ B H (k σ B H s)
theorem HB.sub {sts : List Stmt} (h : HB X sts (SX X J B0 H0 Γ' O') N R) (k : Sub Γ' Γ) (hO : ∀ q ∈ O', q ∈ O := by simp) : HB X sts (SX X J B0 H0 Γ O) N R := h.pre fun _ _ _ s => s.sub k hO
theorem HB.post {S0 : Sp3} {sts : List Stmt} {N' : Sp3} (h : HB X sts S0 N' R) (k : ∀ σ B H, N' σ B H → N σ B H) : HB X sts S0 N R := fun σ B H s E n r => h σ B H s E (fun σ' B' H' e q => n σ' B' H' e (k _ _ _ q)) r
theorem HB.ex {α : Sort _} {S0 : α → Sp3} {sts : List Stmt} (h : ∀ x, HB X sts (S0 x) N R) : HB X sts (fun σ B H => ∃ x, S0 x σ B H) N R := fun σ B H ⟨x, s⟩ => h x σ B H s
theorem hb_nil {S0 : Sp3} (h : ∀ σ B H, S0 σ B H → N σ B H) : HB X [] S0 N R := fun σ B H s E n _ => ofSs pss_nil (n σ B H (.refl _) (h σ B H s))
theorem hb_nilS : HB X [] (SX X J B0 H0 Γ O) (SX X J B0 H0 Γ O) R := hb_nil fun _ _ _ s => s
/-- one statement -/
def HS (X : Cx) (st : Stmt) (S0 M : Sp3) (R : Rp) : Prop := ∀ (σ : L2.St) (B H : Hp), S0 σ B H → ∀ E : Ends,
  (∀ σ' B' H', Same B B' → M σ' B' H' → E.nx σ' H') → (∀ v B' H', Same B B' → R v B' H' → E.rt v H') → wpS X st E σ H
theorem hb_cons {S0 : Sp3} (h : HS X st S0 M R) (k : HB X rest M N R) : HB X (st :: rest) S0 N R := fun σ B H s E n r =>
  ofSs (pss_cons wpS.ps wpSs.pss) (h σ B H s { E with nx := fun σ' H' => wpSs X rest E σ' H' } (fun σ' B' H' e q => k σ' B' H' q E (fun σ2 B2 H2 e2 => n σ2 B2 H2 (e.trans e2)) fun v B2 H2 e2 => r v B2 H2 (e.trans e2)) r)
theorem HS.pre {S0 S1 : Sp3} (h : HS X st S1 N R) (k : ∀ σ B H, S0 σ B H → S1 σ B H) : HS X st S0 N R := fun σ B H s => h σ B H (k σ B H s)
theorem HS.post {S0 : Sp3} {N' : Sp3} (h : HS X st S0 N' R) (k : ∀ σ B H, N' σ B H → N σ B H) : HS X st S0 N R := fun σ B H s E n r => h σ B H s E (fun σ' B' H' e q => n σ' B' H' e (k _ _ _ q)) r
/-- the answer: told by a predicate of its datum -/
def Ret (K : PySem.W.Frag) (J : Jx) (B0 H0 : Hp) (P : D → Prop) : Rp := fun v B' H' => Stp J B0 H0 B' H' ∧ ∃ d, P d ∧ Den K J d B' v
/-! names -/
theorem hs_asg (i : Nat) {x : Str} {px : Pos} (h : Ev X J Γ e P) (hO : ∀ q ∈ O', q ∈ O ∧ q.1 ≠ i) (hN : X.N.Nodup) (hi : X.N[i]? = some x := by rfl) (hx : Loc X.env.scope x := by first | exact Or.inl rfl | exact Or.inr rfl)
    (hs : swapsWith e (some (.Name x px)) pos.line X.env = pure false := by rfl) (hf : X.fn x = true ∨ X.env.scope.names.lookup x = some .local := by first | exact .inl rfl | exact .inr rfl) :
    HS X (.Assign [.Name x px] e pos) (SX X J B0 H0 Γ O) (fun σ B H => ∃ d, P d ∧ SX X J B0 H0 (Γ.set i (some d)) O' σ B H) R := fun σ B H s E n _ =>
  ofS (ps_set hN hi hx wpE.pe hs hf) (h σ B H s.w s.fit _ fun d v B1 H1 p t hd => n _ B1 H1 t.b ⟨d, p, (s.step t).set hd hO⟩)
theorem hb_asg (i : Nat) {x : Str} {px : Pos} (h : Ev X J Γ e P) (k : ∀ d, P d → HB X rest (SX X J B0 H0 (Γ.set i (some d)) O') N R) (hO : ∀ q ∈ O', q ∈ O ∧ q.1 ≠ i) (hN : X.N.Nodup) (hi : X.N[i]? = some x := by rfl) (hx : Loc X.env.scope x := by first | exact Or.inl rfl | exact Or.inr rfl)
    (hs : swapsWith e (some (.Name x px)) pos.line X.env = pure false := by rfl) (hf : X.fn x = true ∨ X.env.scope.names.lookup x = some .local := by first | exact .inl rfl | exact .inr rfl) :
    HB X (.Assign [.Name x px] e pos :: rest) (SX X J B0 H0 Γ O) N R := hb_cons (hs_asg i h hO hN hi hx hs hf) (.ex fun d σ B H ⟨p, s⟩ => k d p σ B H s)
/-- the value known, nothing owned -/
theorem hb_set (i : Nat) {d : D} {x : Str} {px : Pos} (h : Ev X J Γ e (· = d)) (k : HB X rest (SX X J B0 H0 (Γ.set i (some d)) []) N R) (hN : X.N.Nodup) (hi : X.N[i]? = some x := by rfl) (hx : Loc X.env.scope x := by first | exact Or.inl rfl | exact Or.inr rfl)
    (hs : swapsWith e (some (.Name x px)) pos.line X.env = pure false := by rfl) (hf : X.fn x = true ∨ X.env.scope.names.lookup x = some .local := by first | exact .inl rfl | exact .inr rfl) :
    HB X (.Assign [.Name x px] e pos :: rest) (SX X J B0 H0 Γ []) N R := hb_asg i h (fun _ p => by subst p; exact k) (fun _ h => by cases h) hN hi hx hs hf
/-- a new list of one's own -/
theorem hb_own (i : Nat) {PL : List D → Prop} {x : Str} {px : Pos} (h : EvO X J Γ e PL) (k : ∀ ds, PL ds → HB X rest (SX X J B0 H0 (Γ.set i none) ((i, ds) :: O')) N R) (hO : ∀ q ∈ O', q ∈ O ∧ q.1 ≠ i) (hl : i < Γ.length) (hN : X.N.Nodup) (hi : X.N[i]? = some x := by rfl) (hx : Loc X.env.scope x := by first | exact Or.inl rfl | exact Or.inr rfl)
    (hs : swapsWith e (some (.Name x px)) pos.line X.env = pure false := by rfl) (hf : X.fn x = true ∨ X.env.scope.names.lookup x = some .local := by first | exact .inl rfl | exact .inr rfl) :
    HB X (.Assign [.Name x px] e pos :: rest) (SX X J B0 H0 Γ O) N R := hb_cons (M := fun σ B H => ∃ ds, PL ds ∧ SX X J B0 H0 (Γ.set i none) ((i, ds) :: O') σ B H)
  (fun σ B H s E n _ => ofS (ps_set hN hi hx wpE.pe hs hf) (h σ B H s.w s.fit _ fun ds p vs B1 H1 pl t h0 hb hj hv hd => n _ B1 H1 t.b ⟨ds, pl, s.setO t h0 hb hj hv hd hl hO⟩))
  (.ex fun d σ B H ⟨p, s⟩ => k d p σ B H s)
theorem hb_frz {i : Nat} {ds : List D} {sts : List Stmt} (k : HB X sts (SX X J B0 H0 (Γ.set i (some (.lst ds))) O) N R) (hn : ∀ q ∈ O, q.1 ≠ i := by simp) : HB X sts (SX X J B0 H0 Γ ((i, ds) :: O)) N R := fun σ B H s E n r => by
  obtain ⟨B', e, s'⟩ := s.frz hn
  exact k σ B' H s' E (fun σ2 B2 H2 e2 => n σ2 B2 H2 (e.trans e2)) fun v B2 H2 e2 => r v B2 H2 (e.trans e2)
/-! return, expression statements -/
theorem hb_ret {P' : D → Prop} (h : Ev X J Γ e P) (k : ∀ d, P d → P' d) : HB X (.Return (some e) pos :: rest) (SX X J B0 H0 Γ O) N (Ret X.K J B0 H0 P') := fun σ B H s E _ r =>
  ofSs (pss_cons (ps_ret wpE.pe) pss_never) (h σ B H s.w s.fit _ fun d v B1 H1 p t hd => r v B1 H1 t.b ⟨(s.step t).st, d, k d p, hd⟩)
theorem hb_retE (h : Ev X J Γ e P) : HB X (.Return (some e) pos :: rest) (SX X J B0 H0 Γ O) N (Ret X.K J B0 H0 P) := hb_ret h fun _ p => p
theorem hb_expr (h : Ev X J Γ e P) (k : HB X rest (SX X J B0 H0 Γ O) N R) (hs : swapsWith e none pos.line X.env = pure false := by rfl) : HB X (.Expr e pos :: rest) (SX X J B0 H0 Γ O) N R := hb_cons (M := SX X J B0 H0 Γ O)
  (fun σ B H s E n _ => ofS (ps_expr wpE.pe hs) (h σ B H s.w s.fit _ fun d v B1 H1 p t hd => n σ B1 H1 t.b (s.step t))) k
/-- xs.append(e), xs one's own -/
theorem hb_app (i : Nat) {ds : List D} {x : Str} {p1 p2 p3 : Pos} (h : Ev X J Γ e P) (k : ∀ d, P d → HB X rest (SX X J B0 H0 Γ ((i, ds ++ [d]) :: O)) N R) (hl : ds.length < 100000) (hn : ∀ q ∈ O, q.1 ≠ i := by simp) (hi : X.N[i]? = some x := by rfl)
    (hv : Vis X.env.scope x := by first | exact Or.inl rfl | exact Or.inr (Or.inl rfl) | exact Or.inr (Or.inr rfl)) (hs : swapsWith (.Call (.Attribute (.Name x p1) "append" p2) [e] [] p3) none pos.line X.env = pure false := by rfl)
    (hd : (x == ("__debug__" : Str)) = false := by decide) (hcd : (x == ("__classdict__" : Str)) = false := by decide) (hse : starEach [e] X.env = (false, eval e X.env) :: starEach [] X.env := by rfl)
    (hb : attributeBase (.Name x p1) "append" X.env (eval (.Name x p1) X.env) = eval (.Name x p1) X.env := by rfl) (hline : (p2.endLine == p3.line) = true := by rfl)
    (hfew : ((backTo p3 (starEach [e] X.env)).all (fun x => !x.1) && (backToKw p3 (keywordEach [] X.env)).all (fun x => x.1.isSome) && decide ([e].length + ([] : List Keyword).length + (if ([] : List Keyword).isEmpty then 0 else 1) < 30)) = true := by rfl)
    (hplain : (backTo p3 (starEach [] X.env)).any (·.1) = false := by rfl) :
    HB X (.Expr (.Call (.Attribute (.Name x p1) "append" p2) [e] [] p3) pos :: rest) (SX X J B0 H0 Γ ((i, ds) :: O)) N R := hb_cons (M := fun σ B H => ∃ d, P d ∧ SX X J B0 H0 Γ ((i, ds ++ [d]) :: O) σ B H)
  (fun σ B H s E n _ => ofS (ps_expr (pe_bm PySem.F.plainAttrs_list PySem.F.slot_list_append PySem.F.type_list_append mt_append (pe_var hi hv hd hcd) (pa_cons wpE.pe pa_nil hse) hb hfew hline hse hplain) hs) (by
    obtain ⟨a, vs, o⟩ := s.own (i, ds) List.mem_cons_self
    refine ⟨.ref a, o.at_, .inl ⟨rfl, _, SqL.of o.lst⟩, ?_⟩
    refine h σ B H s.w s.fit _ fun d v B1 H1 p t hdv => ?_
    have s1 := s.step t
    obtain ⟨a1, vs1, o1⟩ := s1.own (i, ds) List.mem_cons_self
    have ea : a1 = a := by
      have z := o1.at_.symm.trans o.at_
      injection z with z; injection z with z; injection z
    subst ea
    refine ⟨a1, vs1, v, rfl, rfl, o1.lst, small' (by rw [o1.den.length]; exact hl), n σ B1 _ t.b ⟨d, p, s1.mut o1 (o1.den.append (dens_cons.mpr ⟨v, [], rfl, hdv, dens_nil.mpr rfl⟩)) hn⟩⟩))
  (.ex fun d σ B H ⟨p, s⟩ => k d p σ B H s)
/-! if -/
/-- one branch returns -/
theorem hb_ifR {PT : Bool → Prop} (h : EvT X J Γ c PT) (ht : PT true → HB X body (SX X J B0 H0 Γ O) (fun _ _ _ => False) R) (k : PT false → HB X rest (SX X J B0 H0 Γ O) N R) : HB X (.If c body [] pos :: rest) (SX X J B0 H0 Γ O) N R :=
  hb_cons (M := fun σ B H => PT false ∧ SX X J B0 H0 Γ O σ B H)
    (fun σ B H s E n r => ofS (ps_if wpT.pt wpSs.pss pss_nil) (h σ B H s.w s.fit _ fun b B1 H1 p t => by
      cases b with
      | true => exact iteT (ht p σ B1 H1 (s.step t) E (fun _ _ _ _ z => z.elim) fun v B2 H2 e2 => r v B2 H2 (t.b.trans e2))
      | false => exact iteF (n σ B1 H1 t.b ⟨p, s.step t⟩)))
    (fun σ B H ⟨p, s⟩ => k p σ B H s)
theorem hs_if {els : List Stmt} {PT : Bool → Prop} (h : EvT X J Γ c PT) (ht : PT true → HB X body (SX X J B0 H0 Γ O) M R) (hf : PT false → HB X els (SX X J B0 H0 Γ O) M R) : HS X (.If c body els pos) (SX X J B0 H0 Γ O) M R :=
  fun σ B H s E n r => ofS (ps_if wpT.pt wpSs.pss wpSs.pss) (h σ B H s.w s.fit _ fun b B1 H1 p t => by
      cases b with
      | true => exact iteT (ht p σ B1 H1 (s.step t) E (fun σ2 B2 H2 e2 => n σ2 B2 H2 (t.b.trans e2)) fun v B2 H2 e2 => r v B2 H2 (t.b.trans e2))
      | false => exact iteF (hf p σ B1 H1 (s.step t) E (fun σ2 B2 H2 e2 => n σ2 B2 H2 (t.b.trans e2)) fun v B2 H2 e2 => r v B2 H2 (t.b.trans e2)))
/-- a way that cannot be -/
theorem hb_no {sts : List Stmt} {S0 : Sp3} (h : False) : HB X sts S0 N R := h.elim
/-! a, b = e1, e2 -/
theorem hb_par (i j : Nat) {x y : Str} {ta : List D → Prop} {px py pt : Pos} {kt k2 pt2} (h : EvA X J Γ [a, b] ta) (k : ∀ d1 d2, ta [d1, d2] → HB X rest (SX X J B0 H0 ((Γ.set i (some d1)).set j (some d2)) []) N R) (hl : ∀ ds, ta ds → ds.length = 2)
    (hc : X.calm = true) (hN : X.N.Nodup) (hij : i ≠ j) (hi : X.N[i]? = some x := by rfl) (hj : X.N[j]? = some y := by rfl) (hx : X.env.scope.names.lookup x = some .local := by rfl) (hy : X.env.scope.names.lookup y = some .local := by rfl)
    (hw : swappedStores [.Tuple [.Name x px, .Name y py] kt pt] (.Tuple [a, b] k2 pt2) X.env = pure (some [x, y]) := by rfl) (hs : swapsWithSole [.Tuple [.Name x px, .Name y py] kt pt] (.Tuple [a, b] k2 pt2) pos.line X.env = pure false := by rfl) :
    HB X (.Assign [.Tuple [.Name x px, .Name y py] kt pt] (.Tuple [a, b] k2 pt2) pos :: rest) (SX X J B0 H0 Γ O) N R := hb_cons (M := fun σ B H => ∃ d1 d2, ta [d1, d2] ∧ SX X J B0 H0 ((Γ.set i (some d1)).set j (some d2)) [] σ B H)
  (fun σ B H s E n _ => ofS (ps_par hc hN hi hj hij hx hy wpA.pa hw hs) (h σ B H s.w s.fit _ fun ds vs B1 H1 p t hd => by
    have hl := hl ds p
    match ds, hl with
    | [d1, d2], _ =>
      obtain ⟨v1, r1, e1, q1, q2⟩ := dens_cons.mp hd
      obtain ⟨v2, r2, e2, q3, q4⟩ := dens_cons.mp q2
      have e3 := dens_nil.mp q4
      subst e3 e2 e1
      exact ⟨v1, v2, rfl, n _ B1 H1 t.b ⟨d1, d2, p, ((s.step t).set (O' := []) q1 (fun _ h => by cases h)).set q3 (fun _ h => by cases h)⟩⟩))
  (fun σ B H ⟨d1, d2, p, s⟩ => k d1 d2 p σ B H s)
theorem hb_par2 (i j : Nat) {d1 d2 : D} {x y : Str} {px py pt : Pos} {kt k2 pt2} (h1 : Ev X J Γ a (· = d1)) (h2 : Ev X J Γ b (· = d2)) (k : HB X rest (SX X J B0 H0 ((Γ.set i (some d1)).set j (some d2)) []) N R)
    (hN : X.N.Nodup) (hc : X.calm = true := by rfl) (hij : i ≠ j := by decide) (hi : X.N[i]? = some x := by rfl) (hj : X.N[j]? = some y := by rfl) (hx : X.env.scope.names.lookup x = some .local := by rfl) (hy : X.env.scope.names.lookup y = some .local := by rfl)
    (hw : swappedStores [.Tuple [.Name x px, .Name y py] kt pt] (.Tuple [a, b] k2 pt2) X.env = pure (some [x, y]) := by rfl) (hs : swapsWithSole [.Tuple [.Name x px, .Name y py] kt pt] (.Tuple [a, b] k2 pt2) pos.line X.env = pure false := by rfl)
    (hs1 : starEach [a, b] X.env = (false, eval a X.env) :: starEach [b] X.env := by rfl) (hs2 : starEach [b] X.env = (false, eval b X.env) :: starEach [] X.env := by rfl) :
    HB X (.Assign [.Tuple [.Name x px, .Name y py] kt pt] (.Tuple [a, b] k2 pt2) pos :: rest) (SX X J B0 H0 Γ O) N R :=
  hb_par i j (a_cons h1 (a_cons h2 a_nil hs2) hs1) (fun e1 e2 p => by injection p with p1 p; injection p with p2 p; subst p1 p2; exact k) (fun _ p => by rw [p]; rfl) hc hN hij hi hj hx hy hw hs
end
/-! ### defs -/
/-- a promise by data -/
def Pm (K : PySem.W.Frag) {A : Type} (args : A → List D) (pre : A → Prop) (post : A → D → Prop) : Sp := fun vs H Q _ => ∃ (J : Jx) (B : Hp) (a : A), W J B H ∧ Dens K J (args a) B vs ∧ pre a ∧
  ∀ d v B' H', post a d → Stp J B H B' H' → Den K J d B' v → Q v H'
theorem start_fit {K : PySem.W.Frag} {J : Jx} {B : Hp} {ds : List D} {vs : List V} {n : Nat} (h : Dens K J ds B vs) : Fit K J (ds.map some ++ List.replicate n none) (vs.map some ++ List.replicate n none) B := by
  refine ⟨fun i d e => ?_, by rw [List.length_append, List.length_append, List.length_map, List.length_map, List.length_replicate, List.length_replicate, h.length]⟩
  by_cases hi : i < ds.length
  · rw [List.getElem?_append_left (by simpa using hi), List.getElem?_map] at e
    cases hd : ds[i]? with
    | none => rw [hd] at e; cases e
    | some d' =>
      rw [hd] at e
      have : d' = d := by injection e with e; injection e
      subst this
      obtain ⟨v, h1, h2⟩ := h.get hd
      refine ⟨v, ?_, h2⟩
      rw [List.getElem?_append_left (by rw [List.length_map, h.length]; exact hi), List.getElem?_map, h1]
      rfl
  · rw [List.getElem?_append_right (by simpa using hi), List.getElem?_replicate] at e
    split at e <;> cases e
theorem S.start {K : PySem.W.Frag} {J : Jx} {B H : Hp} {ds : List D} {vs : List V} {N : List Str} (w : W J B H) (h : Dens K J ds B vs) : S K J B H (ds.map some ++ List.replicate (N.length - ds.length) none) [] (L2.start N vs) B H := by
  refine ⟨.refl w, ?_, fun q hq => (by cases hq), fun q hq => (by cases hq), ?_⟩
  · show Fit K J _ (vs.map some ++ List.replicate (N.length - vs.length) none) B
    rw [h.length]
    exact start_fit h
  · show (vs.map some ++ List.replicate (N.length - vs.length) none).length = _
    rw [List.length_append, List.length_append, List.length_map, List.length_map, List.length_replicate, List.length_replicate, h.length]
section
variable {P : Program} {w : World} {K : PySem.W.Frag} {mg : Str → Option Value} {base : Heap}
/-- a def keeps its promise: its body, from the arguments' data -/
theorem fnD {A : Type} {args : A → List D} {pre : A → Prop} {post : A → D → Prop} {x qual : Str} {st : Stmt} {f : Addr} {fd : FuncData} {N ps : List Str} {k : Nat} (F : Fun K x qual st f fd) (Sc : FnScope N ps (defScope st)) (hl : ∀ a, (args a).length = ps.length)
    (hb : ∀ (X : Cx) (J : Jx) (B H : Hp) (a : A), X.K = K → X.mg = mg → X.prog = P → X.w = w → X.base = base → Room k X.A → (∃ (cdv : Value) (A : Around) (outer : List Env) (s : Shared) (E : XK), X = (cxOf CX0 P w K mg base N qual (defScope st) f cdv A outer s H E).nox) → pre a →
      HB X (defBody st) (S K J B H ((args a).map some ++ List.replicate (N.length - (args a).length) none) []) (fun _ B' H' => Stp J B H B' H' ∧ post a .non) (Ret K J B H (post a))) :
    FnOk P w K mg base CX0 (k + 1) f fd ps (Pm K args pre post) := by
  refine F.ok Sc (fun vs H Q E h => ?_) (fun cdv A outer s H vs Q E hr h => ?_)
  · obtain ⟨J, B, a, _, hd, _⟩ := h
    rw [hd.length, hl]
  · obtain ⟨J, B, a, hw, hd, hp, q⟩ := h
    refine ⟨_, wpSs.pss, ?_⟩
    refine hb _ J B H a rfl rfl rfl rfl rfl hr ⟨cdv, A, outer, s, E, rfl⟩ hp _ B H (S.start hw hd) _ (fun σ' B' H' _ hn => ?_) fun v B' H' _ hr => ?_
    · exact q _ _ B' H' hn.2 hn.1 (den_non.mpr rfl)
    · obtain ⟨t, d, pd, hd⟩ := hr
      exact q d v B' H' pd t hd
end
section
variable {X : Cx} {J : Jx} {Γ : Gam} {e : Expr} {es : List Expr} {pos : Pos}
/-- a def is called -/
theorem x_call {A : Type} {args : A → List D} {pre : A → Prop} {post : A → D → Prop} {P : D → Prop} {PS : List D → Prop} {CX : CXT} {k : Nat} {f : Addr} {fd : FuncData} {ps : List Str} {x : Str} {p : Pos} {E : XK} (F : FnOk X.prog X.w X.K X.mg X.base CX k f fd ps (Pm X.K args pre post)) (hr : Room k X.A) (hm : X.mg x = some (.ref f)) (hk : PySem.W.keepIn X.K (.ref f) = true) (hb : Binds X.K fd ps [])
    (ha : EvA X J Γ (e :: es) PS) (q : ∀ ds, PS ds → ∃ a, ds = args a ∧ pre a ∧ ∀ d, post a d → P d) (hx : Passes CX X E) (hg : Gl X x := by rfl) (hdb : (x == ("__debug__" : Str)) = false := by decide) (he : starEach (e :: es) X.env = (false, eval e X.env) :: starEach es X.env := by rfl)
    (hpl : (backTo pos (starEach es X.env)).any (·.1) = false := by rfl) : Ev X J Γ (.Call (.Name x p) (e :: es) [] pos) P := fun σ B H w f Q qq =>
  ofE (pe_call F hr hg hm hk hb .nil hx wpA.pa hdb he hpl) (ha σ B H w f _ fun ds vs B1 H1 ps s1 dd => by
    obtain ⟨a, rfl, hp, hq⟩ := q ds ps
    rw [List.append_nil]
    exact ⟨J, B1, a, s1.w, dd, hp, fun d v B2 H2 pd s2 hd => qq d v B2 H2 (hq d pd) (s1.trans s2) hd⟩)
end
end Z
end
section
set_option Elab.async false
set_option linter.all false
set_option maxRecDepth 100000
set_option maxHeartbeats 2000000
namespace Z
open PySem PySem.Spec PyProof.Rows L2
/-! ### items, calls of built-ins -/
section
variable {K : PySem.W.Frag} {J : Jx} {B H : Hp}
theorem atI_den {ds : List D} {vs : List V} {i : Int} {d : D} (h : Dens K J ds B vs) (e : atI ds i = some d) : ∃ v, atI vs i = some v ∧ Den K J d B v := by
  unfold atI at e ⊢
  rw [h.length]
  cases q : ixN ds.length i with
  | none => rw [q] at e; cases e
  | some j =>
    rw [q] at e
    exact h.get e
end
section
variable {X : Cx} {J : Jx} {Γ : Gam} {e a b c : Expr} {es : List Expr} {pos : Pos} {P : D → Prop} {d : D}
theorem x_ixTP {PA PB : D → Prop} (ha : Ev X J Γ a PA) (hb : Ev X J Γ b PB) (k : ∀ x y, PA x → PB y → ∃ ds i d, x = .tup ds ∧ y = .int i ∧ atI ds i = some d ∧ P d) (hs : PlainIx b := by exact fun _ _ => rfl) : Ev X J Γ (.Subscript a b pos) P := fun σ B H w f Q q =>
  ofE (pe_ix ix_tup wpE.pe wpE.pe hs) (two (ta := wpE X a) (tb := wpE X b) ha hb w f fun x y v u B' H' px py s dx dy => by
    obtain ⟨ds, i, d, rfl, rfl, e, p⟩ := k x y px py
    obtain ⟨p1, vs, rfl, h1, h2⟩ := den_tup.mp dx
    obtain ⟨u1, h3, h4⟩ := atI_den h2 e
    exact ⟨p1, vs, i, u1, rfl, den_int.mp dy, SqT.of (s.w.s _ _ h1), h3, q _ _ B' H' p s h4⟩)
theorem x_ixLP {PA PB : D → Prop} (ha : Ev X J Γ a PA) (hb : Ev X J Γ b PB) (k : ∀ x y, PA x → PB y → ∃ ds i d, x = .lst ds ∧ y = .int i ∧ atI ds i = some d ∧ P d) (hs : PlainIx b := by exact fun _ _ => rfl) : Ev X J Γ (.Subscript a b pos) P := fun σ B H w f Q q =>
  ofE (pe_ix ix_list wpE.pe wpE.pe hs) (two (ta := wpE X a) (tb := wpE X b) ha hb w f fun x y v u B' H' px py s dx dy => by
    obtain ⟨ds, i, d, rfl, rfl, e, p⟩ := k x y px py
    obtain ⟨p1, vs, rfl, h1, h2⟩ := den_lst.mp dx
    obtain ⟨u1, h3, h4⟩ := atI_den h2 e
    exact ⟨p1, vs, i, u1, rfl, den_int.mp dy, SqL.of (s.w.s _ _ h1), h3, q _ _ B' H' p s h4⟩)
theorem x_ixT {ds : List D} {i : Int} (ha : Ev X J Γ a (· = .tup ds)) (hb : Ev X J Γ b (· = .int i)) (e : atI ds i = some d) (hs : PlainIx b := by exact fun _ _ => rfl) : Ev X J Γ (.Subscript a b pos) (· = d) := x_ixTP ha hb (fun _ _ p1 p2 => ⟨ds, i, d, p1, p2, e, rfl⟩) hs
theorem x_ixL {ds : List D} {i : Int} (ha : Ev X J Γ a (· = .lst ds)) (hb : Ev X J Γ b (· = .int i)) (e : atI ds i = some d) (hs : PlainIx b := by exact fun _ _ => rfl) : Ev X J Γ (.Subscript a b pos) (· = d) := x_ixLP ha hb (fun _ _ p1 p2 => ⟨ds, i, d, p1, p2, e, rfl⟩) hs
/-- what a built-in gives, by data -/
def RCd (X : Cx) (J : Jx) (r : List V → Hp → VK → Prop) (ds : List D) (P : D → Prop) : Prop := ∀ (B H : Hp) (vs : List V), W J B H → Dens X.K J ds B vs → ∀ Q : VK, (∀ d v B' H', P d → Stp J B H B' H' → Den X.K J d B' v → Q v H') → r vs H Q
theorem x_blt {r : List V → Hp → VK → Prop} {id : String} {x : Str} {p : Pos} {PS : List D → Prop} (hc : CallR X (.builtin id) r) (hm : X.mg x = none) (hv : bootBuiltins x = some (.builtin id)) (ha : EvA X J Γ (e :: es) PS) (k : ∀ ds, PS ds → RCd X J r ds P) (hg : Gl X x := by rfl)
    (hn : x ≠ "__name__" := by decide) (hdb : (x == ("__debug__" : Str)) = false := by decide) (he : starEach (e :: es) X.env = (false, eval e X.env) :: starEach es X.env := by rfl) (hpl : (backTo pos (starEach es X.env)).any (·.1) = false := by rfl) : Ev X J Γ (.Call (.Name x p) (e :: es) [] pos) P := fun σ B H w f Q q =>
  ofE (pe_callB hc hg hm hv wpA.pa hn hdb he hpl) (ha σ B H w f _ fun ds vs B1 H1 ps s1 dd => k ds ps B1 H1 vs s1.w dd Q fun d v B2 H2 p s2 hd => q d v B2 H2 p (s1.trans s2) hd)
theorem x_bty {r : List V → Hp → VK → Prop} {T : String} {x : Str} {p : Pos} {PS : List D → Prop} (hc : CallR X (.type T) r) (hm : X.mg x = none) (hv : bootBuiltins x = some (.type T)) (ha : EvA X J Γ (e :: es) PS) (k : ∀ ds, PS ds → RCd X J r ds P) (hg : Gl X x := by rfl)
    (hn : x ≠ "__name__" := by decide) (hdb : (x == ("__debug__" : Str)) = false := by decide) (he : starEach (e :: es) X.env = (false, eval e X.env) :: starEach es X.env := by rfl) (hpl : (backTo pos (starEach es X.env)).any (·.1) = false := by rfl) : Ev X J Γ (.Call (.Name x p) (e :: es) [] pos) P := fun σ B H w f Q q =>
  ofE (pe_callTy hc hg hm hv wpA.pa hn hdb he hpl) (ha σ B H w f _ fun ds vs B1 H1 ps s1 dd => k ds ps B1 H1 vs s1.w dd Q fun d v B2 H2 p s2 hd => q d v B2 H2 p (s1.trans s2) hd)
theorem dens1 {K : PySem.W.Frag} {B : Hp} {d : D} {vs : List V} (h : Dens K J [d] B vs) : ∃ v, vs = [v] ∧ Den K J d B v := by
  obtain ⟨v, r, e, h1, h2⟩ := dens_cons.mp h
  rw [dens_nil.mp h2] at e
  exact ⟨v, e, h1⟩
theorem dens2 {K : PySem.W.Frag} {B : Hp} {d d' : D} {vs : List V} (h : Dens K J [d, d'] B vs) : ∃ v v', vs = [v, v'] ∧ Den K J d B v ∧ Den K J d' B v' := by
  obtain ⟨v, r, e, h1, h2⟩ := dens_cons.mp h
  obtain ⟨v', e', h3⟩ := dens1 h2
  rw [e'] at e
  exact ⟨v, v', e, h1, h3⟩
theorem c_abs {i : Int} (p : P (.int (if i < 0 then -i else i))) : RCd X J (fun xs H Q => ∃ i, xs = [.int i] ∧ Q (.int (if i < 0 then -i else i)) H) [.int i] P := fun B H vs w h Q q => by
  obtain ⟨v, rfl, h1⟩ := dens1 h
  rw [den_int.mp h1]
  exact ⟨i, rfl, q _ _ B H p (.refl w) (den_int.mpr rfl)⟩
theorem c_int1 {i : Int} (p : P (.int i)) : RCd X J (fun xs H Q => (∃ i, xs = [.int i] ∧ Q (.int i) H) ∨ ∃ k, xs = [.bl k] ∧ Q (.int (if k then 1 else 0)) H) [.int i] P := fun B H vs w h Q q => by
  obtain ⟨v, rfl, h1⟩ := dens1 h
  rw [den_int.mp h1]
  exact .inl ⟨i, rfl, q _ _ B H p (.refl w) (den_int.mpr rfl)⟩
theorem c_intB {i : Bool} (p : P (.int (if i then 1 else 0))) : RCd X J (fun xs H Q => (∃ i, xs = [.int i] ∧ Q (.int i) H) ∨ ∃ k, xs = [.bl k] ∧ Q (.int (if k then 1 else 0)) H) [.bl i] P := fun B H vs w h Q q => by
  obtain ⟨v, rfl, h1⟩ := dens1 h
  rw [den_bl.mp h1]
  exact .inr ⟨i, rfl, q _ _ B H p (.refl w) (den_int.mpr rfl)⟩
theorem c_lenL {ds : List D} (p : P (.int ds.length)) : RCd X J (fun xs H Q => ∃ p ys, xs = [.ref p] ∧ (SqL X.K H p ys ∨ SqT X.K H p ys) ∧ Q (.int ys.length) H) [.lst ds] P := fun B H vs w h Q q => by
  obtain ⟨v, rfl, h1⟩ := dens1 h
  obtain ⟨a, us, rfl, h2, h3⟩ := den_lst.mp h1
  exact ⟨a, us, rfl, .inl (SqL.of (w.s _ _ h2)), q _ _ B H p (.refl w) (den_int.mpr (by rw [h3.length]))⟩
theorem c_lenT {ds : List D} (p : P (.int ds.length)) : RCd X J (fun xs H Q => ∃ p ys, xs = [.ref p] ∧ (SqL X.K H p ys ∨ SqT X.K H p ys) ∧ Q (.int ys.length) H) [.tup ds] P := fun B H vs w h Q q => by
  obtain ⟨v, rfl, h1⟩ := dens1 h
  obtain ⟨a, us, rfl, h2, h3⟩ := den_tup.mp h1
  exact ⟨a, us, rfl, .inr (SqT.of (w.s _ _ h2)), q _ _ B H p (.refl w) (den_int.mpr (by rw [h3.length]))⟩
theorem c_lenS {ns : List Int} (p : P (.int ns.length)) : RCd X J (fun xs H Q => ∃ p ys, xs = [.ref p] ∧ (SqL X.K H p ys ∨ SqT X.K H p ys) ∧ Q (.int ys.length) H) [.scr ns] P := fun B H vs w h Q q => by
  obtain ⟨v, rfl, h1⟩ := dens1 h
  obtain ⟨a, rfl, h2⟩ := den_scr.mp h1
  exact ⟨a, _, rfl, .inl (w.s.seq h2), q _ _ B H p (.refl w) (den_int.mpr (by rw [List.length_map]))⟩
theorem c_sum {ns : List Int} (p : P (.int ns.sum)) : RCd X J (rSum X.K) [.lst (ns.map D.int)] P := fun B H vs w h Q q => by
  obtain ⟨v, rfl, h1⟩ := dens1 h
  obtain ⟨a, us, rfl, h2, h3⟩ := den_lst.mp h1
  rw [h3.ints] at h2
  exact ⟨a, ns, rfl, SqL.of (w.s _ _ h2), q _ _ B H p (.refl w) (den_int.mpr rfl)⟩
theorem c_min {ns : List Int} (hl : 0 < ns.length) (p : ∀ m, m ∈ ns → (∀ y, y ∈ ns → m ≤ y) → P (.int m)) : RCd X J (rMin X.K) [.lst (ns.map D.int)] P := fun B H vs w h Q q => by
  obtain ⟨v, rfl, h1⟩ := dens1 h
  obtain ⟨a, us, rfl, h2, h3⟩ := den_lst.mp h1
  rw [h3.ints] at h2
  exact ⟨a, ns, rfl, SqL.of (w.s _ _ h2), hl, fun m hm hle => q _ _ B H (p m hm hle) (.refl w) (den_int.mpr rfl)⟩
theorem c_max {ns : List Int} (hl : 0 < ns.length) (p : ∀ m, m ∈ ns → (∀ y, y ∈ ns → y ≤ m) → P (.int m)) : RCd X J (rMax X.K) [.lst (ns.map D.int)] P := fun B H vs w h Q q => by
  obtain ⟨v, rfl, h1⟩ := dens1 h
  obtain ⟨a, us, rfl, h2, h3⟩ := den_lst.mp h1
  rw [h3.ints] at h2
  exact ⟨a, ns, rfl, SqL.of (w.s _ _ h2), hl, fun m hm hle => q _ _ B H (p m hm hle) (.refl w) (den_int.mpr rfl)⟩
theorem c_strI {i : Int} (hz : i.natAbs.log2 < 1920) (p : P (.str (toString i))) : RCd X J (fun xs H Q => ∃ i, xs = [.int i] ∧ i.natAbs.log2 < 1920 ∧ Q (.str (toString i)) H) [.int i] P := fun B H vs w h Q q => by
  obtain ⟨v, rfl, h1⟩ := dens1 h
  rw [den_int.mp h1]
  exact ⟨i, rfl, hz, q _ _ B H p (.refl w) (den_str.mpr rfl)⟩
/-- tuple(a list), list(a tuple or list) -/
theorem c_tupL {ds : List D} (p : P (.tup ds)) : RCd X J (fun xs H Q => ∃ p ys, xs = [.ref p] ∧ ((SqL X.K H p ys ∧ ∀ l, H l = none → Q (.ref l) (upd H l (.tup ys))) ∨ (SqT X.K H p ys ∧ Q (.ref p) H))) [.lst ds] P := fun B H vs w h Q q => by
  obtain ⟨v, rfl, h1⟩ := dens1 h
  obtain ⟨a, us, rfl, h2, h3⟩ := den_lst.mp h1
  refine ⟨a, us, rfl, .inl ⟨SqL.of (w.s _ _ h2), fun l hl => ?_⟩⟩
  exact q _ _ _ _ p (.new w hl) (den_tup.mpr ⟨l, us, rfl, upd_same, h3.mono (same_upd (w.free hl))⟩)
theorem c_lstL {ds : List D} (p : P (.lst ds)) : RCd X J (fun xs H Q => ∃ p ys, xs = [.ref p] ∧ (SqL X.K H p ys ∨ SqT X.K H p ys) ∧ ∀ l, H l = none → Q (.ref l) (upd H l (.lst ys))) [.lst ds] P := fun B H vs w h Q q => by
  obtain ⟨v, rfl, h1⟩ := dens1 h
  obtain ⟨a, us, rfl, h2, h3⟩ := den_lst.mp h1
  refine ⟨a, us, rfl, .inl (SqL.of (w.s _ _ h2)), fun l hl => ?_⟩
  exact q _ _ _ _ p (.new w hl) (den_lst.mpr ⟨l, us, rfl, upd_same, h3.mono (same_upd (w.free hl))⟩)
theorem c_all {bs : List Bool} (p : P (.bl (bs.all id))) : RCd X J (fun vs H Q => ∃ (a : Addr) (bs : List Bool), vs = [V.ref a] ∧ SqL X.K H a (bs.map V.bl) ∧ Q (.bl (bs.all id)) H) [.lst (bs.map D.bl)] P := fun B H vs w h Q q => by
  obtain ⟨v, rfl, h1⟩ := dens1 h
  obtain ⟨a, us, rfl, h2, h3⟩ := den_lst.mp h1
  rw [h3.bls] at h2
  exact ⟨a, bs, rfl, SqL.of (w.s _ _ h2), q _ _ B H p (.refl w) (den_bl.mpr rfl)⟩
/-! isinstance -/
def tyD : D → Option String
  | .non => some "NoneType"
  | .bl _ => some "bool"
  | .int _ => some "int"
  | .str _ => some "str"
  | .tup _ => some "tuple"
  | .lst _ => some "list"
  | _ => none
theorem den_ty {K : PySem.W.Frag} {B H : Hp} {v : V} {t : String} (h : Den K J d B v) (s : Same B H) (e : tyD d = some t) : TyX K H v (.type t) := by
  cases d with
  | non => injection e with e; subst e; rw [den_non.mp h]; exact .base .non
  | bl b => injection e with e; subst e; rw [den_bl.mp h]; exact .base (.bl b)
  | int i => injection e with e; subst e; rw [den_int.mp h]; exact .base (.int i)
  | str x => injection e with e; subst e; rw [den_str.mp h]; exact .base (.str x)
  | tup ds => injection e with e; subst e; obtain ⟨a, vs, e1, e2, _⟩ := den_tup.mp h; rw [e1]; exact .base (.tup (s _ _ e2))
  | lst ds => injection e with e; subst e; obtain ⟨a, vs, e1, e2, _⟩ := den_lst.mp h; rw [e1]; exact .base (.lst (s _ _ e2))
  | _ => cases e
theorem x_isi {y : Str} {p p2 : Pos} {T t : String} {r : Bool} (ha : Ev X J Γ a (· = d)) (e : tyD d = some t) (hk : kitB t T = some r) (hm : X.mg "isinstance" = none) (hmT : X.mg y = none) (hvT : bootBuiltins y = some (.type T)) (hg : Gl X "isinstance" := by rfl) (hgT : Gl X y := by rfl) (hnT : y ≠ "__name__" := by decide) (hdT : (y == ("__debug__" : Str)) = false := by decide)
    (he : starEach [a, .Name y p2] X.env = (false, eval a X.env) :: starEach [.Name y p2] X.env := by rfl) (he2 : starEach [.Name y p2] X.env = (false, eval (.Name y p2) X.env) :: starEach [] X.env := by rfl) (hpl : (backTo pos (starEach [.Name y p2] X.env)).any (·.1) = false := by rfl) :
    Ev X J Γ (.Call (.Name "isinstance" p) [a, .Name y p2] [] pos) (· = .bl r) := fun σ B H w f Q q =>
  ofE (pe_callB call_isi hg hm (by decide +kernel) (pa_cons wpE.pe (pa_cons (pe_bltn hgT hmT hvT (v := .ty T) rfl hnT hdT) pa_nil he2) he) (by decide) (by decide) he hpl) (ha σ B H w f _ fun x v B1 H1 px s1 dx => by
    subst px
    exact ⟨v, .ty T, _, _, r, rfl, .ty T, den_ty dx s1.w.s e, kit_ty hk, q _ _ B1 H1 rfl s1 (den_bl.mpr rfl)⟩)
/-! lists and tuples: slices, sums, multiples -/
def cutD (xs : List D) (lo hi : Option Int) : List D := (xs.drop (HT.sIx xs.length 0 lo)).take (HT.sIx xs.length xs.length hi - HT.sIx xs.length 0 lo)
theorem cut_den {K : PySem.W.Frag} {B : Hp} {ds : List D} {vs : List V} (h : Dens K J ds B vs) (lo hi : Option Int) : Dens K J (cutD ds lo hi) B (cutV vs lo hi) := by
  unfold cutD cutV
  rw [h.length]
  exact (h.drop _).take _
def EvP (X : Cx) (J : Jx) (Γ : Gam) (o : Option Expr) (x : Option Int) : Prop := match o with
  | none => x = none
  | some e => ∃ i, x = some i ∧ Ev X J Γ e (· = .int i)
def tP (X : Cx) (o : Option Expr) : TO := match o with
  | none => tNoPart
  | some e => tPart (wpE X e)
theorem po_any (o : Option Expr) : PO X o (tP X o) := by
  cases o with
  | none => exact po_none
  | some e => exact po_some wpE.pe
theorem EvP.run {o : Option Expr} {x : Option Int} (h : EvP X J Γ o x) {σ : L2.St} {B H : Hp} (w : W J B H) (f : Fit X.K J Γ σ B) {Q : Option Int → Hp → Prop} (q : ∀ B' H', Stp J B H B' H' → Q x H') : tP X o σ H Q := by
  cases o with
  | none =>
    have h : x = none := h
    subst h
    exact q B H (.refl w)
  | some e =>
    obtain ⟨i, rfl, he⟩ := h
    exact he σ B H w f _ fun d v B1 H1 p s1 hd => ⟨i, by subst p; exact den_int.mp hd, q B1 H1 s1⟩
theorem o_slL {lo hi : Option Expr} {l u : Option Int} {ds : List D} {p2 : Pos} (ha : Ev X J Γ a (· = .lst ds)) (hl : EvP X J Γ lo l) (hu : EvP X J Γ hi u) : EvO X J Γ (.Subscript a (.Slice lo hi none p2) pos) (· = cutD ds l u) := fun σ B H w f Q q =>
  ofE (pe_slice sl_list wpE.pe (po_any lo) (po_any hi)) (ha σ B H w f _ fun x v B1 H1 px s1 dx => hl.run s1.w (f.mono s1.b) fun B2 H2 s2 => hu.run s2.w (f.mono (s1.trans s2).b) fun B3 H3 s3 => by
    subst px
    have s := (s1.trans s2).trans s3
    obtain ⟨p1, vs, rfl, h1, h2⟩ := den_lst.mp (dx.mono (s2.trans s3).b)
    refine ⟨p1, vs, rfl, SqL.of (s.w.s _ _ h1), fun p hp => ?_⟩
    have jn : ¬ J.has p := s.w.nh hp
    exact q _ p _ B3 _ rfl (s.trans (.newO s.w hp)) (s.back2 hp) (s.w.free hp) jn upd_same (cut_den h2 l u))
/-- the script's -/
theorem o_slS {lo hi : Option Expr} {l u : Option Int} {ns : List Int} {p2 : Pos} (ha : Ev X J Γ a (· = .scr ns)) (hl : EvP X J Γ lo l) (hu : EvP X J Γ hi u) : EvO X J Γ (.Subscript a (.Slice lo hi none p2) pos) (· = cutD (ns.map D.int) l u) := fun σ B H w f Q q =>
  ofE (pe_slice sl_list wpE.pe (po_any lo) (po_any hi)) (ha σ B H w f _ fun x v B1 H1 px s1 dx => hl.run s1.w (f.mono s1.b) fun B2 H2 s2 => hu.run s2.w (f.mono (s1.trans s2).b) fun B3 H3 s3 => by
    subst px
    have s := (s1.trans s2).trans s3
    obtain ⟨p1, rfl, h1⟩ := den_scr.mp (dx.mono (s2.trans s3).b)
    refine ⟨p1, _, rfl, s.w.s.seq h1, fun p hp => ?_⟩
    have jn : ¬ J.has p := s.w.nh hp
    exact q _ p _ B3 _ rfl (s.trans (.newO s.w hp)) (s.back2 hp) (s.w.free hp) jn upd_same (cut_den .of_ints l u))
theorem x_slT {lo hi : Option Expr} {l u : Option Int} {ds : List D} {p2 : Pos} (ha : Ev X J Γ a (· = .tup ds)) (hl : EvP X J Γ lo l) (hu : EvP X J Γ hi u) : Ev X J Γ (.Subscript a (.Slice lo hi none p2) pos) (· = .tup (cutD ds l u)) := fun σ B H w f Q q =>
  ofE (pe_slice sl_tupA wpE.pe (po_any lo) (po_any hi)) (ha σ B H w f _ fun x v B1 H1 px s1 dx => hl.run s1.w (f.mono s1.b) fun B2 H2 s2 => hu.run s2.w (f.mono (s1.trans s2).b) fun B3 H3 s3 => by
    subst px
    have s := (s1.trans s2).trans s3
    obtain ⟨p1, vs, rfl, h1, h2⟩ := den_tup.mp (dx.mono (s2.trans s3).b)
    refine ⟨p1, vs, rfl, SqT.of (s.w.s _ _ h1), fun hw => ?_, fun hw p hp => ?_⟩
    · have e : cutD ds l u = ds := by
        unfold cutD
        rw [← h2.length, hw.1, hw.2, List.drop_zero, Nat.sub_zero, h2.length, List.take_length]
      exact q _ _ B3 H3 rfl s (den_tup.mpr ⟨p1, vs, rfl, h1, by rw [e]; exact h2⟩)
    · exact q _ _ _ _ rfl (s.trans (.new s.w hp)) (den_tup.mpr ⟨p, _, rfl, upd_same, (cut_den h2 l u).mono (same_upd (s.w.free hp))⟩))
theorem o_catP {PA PB PL : List D → Prop} (ha : Ev X J Γ a (fun d => ∃ xs, d = .lst xs ∧ PA xs)) (hb : Ev X J Γ b (fun d => ∃ xs, d = .lst xs ∧ PB xs)) (k : ∀ xs ys, PA xs → PB ys → xs.length + ys.length ≤ 100000 ∧ PL (xs ++ ys)) : EvO X J Γ (.BinOp a .Add b pos) PL := fun σ B H w f Q q =>
  ofE (pe_op op_cat wpE.pe wpE.pe) (two (ta := wpE X a) (tb := wpE X b) ha hb w f fun x y v u B' H' ⟨xs, ex, pa⟩ ⟨ys, ey, pb⟩ s dx dy => by
    subst ex ey
    obtain ⟨p1, vs, rfl, h1, h2⟩ := den_lst.mp dx
    obtain ⟨p2, us, rfl, h3, h4⟩ := den_lst.mp dy
    obtain ⟨hl, hp⟩ := k xs ys pa pb
    refine ⟨p1, p2, vs, us, rfl, rfl, s.w.s _ _ h1, s.w.s _ _ h3, small (by rw [h2.length, h4.length]; exact hl), fun p hp1 => ?_⟩
    have jn : ¬ J.has p := s.w.nh hp1
    exact q _ p _ B' _ hp (s.trans (.newO s.w hp1)) (s.back2 hp1) (s.w.free hp1) jn upd_same (h2.append h4))
theorem o_cat {xs ys : List D} (ha : Ev X J Γ a (· = .lst xs)) (hb : Ev X J Γ b (· = .lst ys)) (hl : xs.length + ys.length ≤ 100000) : EvO X J Γ (.BinOp a .Add b pos) (· = xs ++ ys) :=
  o_catP (PA := (· = xs)) (PB := (· = ys)) (ha.weak fun _ e => ⟨xs, e, rfl⟩) (hb.weak fun _ e => ⟨ys, e, rfl⟩) fun _ _ e1 e2 => by subst e1 e2; exact ⟨hl, rfl⟩
theorem x_catT {xs ys : List D} (ha : Ev X J Γ a (· = .tup xs)) (hb : Ev X J Γ b (· = .tup ys)) (hl : xs.length + ys.length ≤ 100000) : Ev X J Γ (.BinOp a .Add b pos) (· = .tup (xs ++ ys)) := fun σ B H w f Q q =>
  ofE (pe_op op_catA wpE.pe wpE.pe) (two (ta := wpE X a) (tb := wpE X b) ha hb w f fun x y v u B' H' px py s dx dy => by
    subst px py
    obtain ⟨p1, vs, rfl, h1, h2⟩ := den_tup.mp dx
    obtain ⟨p2, us, rfl, h3, h4⟩ := den_tup.mp dy
    refine ⟨p1, p2, vs, us, rfl, rfl, SqT.of (s.w.s _ _ h1), SqT.of (s.w.s _ _ h3), small (by rw [h2.length, h4.length]; exact hl), fun e => ?_, fun _ e => ?_, fun _ _ p hp => ?_⟩
    · have : xs = [] := List.length_eq_zero_iff.mp (by rw [← h2.length, e]; rfl)
      subst this
      exact q _ _ B' H' rfl s dy
    · have : ys = [] := List.length_eq_zero_iff.mp (by rw [← h4.length, e]; rfl)
      subst this
      rw [List.append_nil] at q
      exact q _ _ B' H' rfl s dx
    · exact q _ _ _ _ rfl (s.trans (.new s.w hp)) (den_tup.mpr ⟨p, _, rfl, upd_same, (h2.append h4).mono (same_upd (s.w.free hp))⟩))
theorem o_rep {xs : List D} {k : Int} (ha : Ev X J Γ a (· = .lst xs)) (hb : Ev X J Γ b (· = .int k)) (hk : 0 ≤ k ∧ k ≤ 1000) (hl : xs.length ≤ 10) : EvO X J Γ (.BinOp a .Mult b pos) (· = (List.replicate k.toNat xs).flatten) := fun σ B H w f Q q =>
  ofE (pe_op op_rep wpE.pe wpE.pe) (two (ta := wpE X a) (tb := wpE X b) ha hb w f fun x y v u B' H' px py s dx dy => by
    subst px py
    obtain ⟨p1, vs, rfl, h1, h2⟩ := den_lst.mp dx
    refine ⟨p1, k, vs, rfl, den_int.mp dy, s.w.s _ _ h1, by omega, by omega, small ?_, fun p hp1 => ?_⟩
    · rw [h2.length]
      have : k.toNat ≤ 1000 := by omega
      calc xs.length * k.toNat ≤ 10 * 1000 := Nat.mul_le_mul hl this
        _ ≤ 100000 := by decide
    have jn : ¬ J.has p := s.w.nh hp1
    exact q _ p _ B' _ rfl (s.trans (.newO s.w hp1)) (s.back2 hp1) (s.w.free hp1) jn upd_same (h2.rep _))
theorem x_repT {xs : List D} {k : Int} (ha : Ev X J Γ a (· = .tup xs)) (hb : Ev X J Γ b (· = .int k)) (hk : 2 ≤ k ∧ k ≤ 1000) (hl : xs.length ≤ 10) (hn : xs ≠ []) : Ev X J Γ (.BinOp a .Mult b pos) (· = .tup (List.replicate k.toNat xs).flatten) := fun σ B H w f Q q =>
  ofE (pe_op op_repT wpE.pe wpE.pe) (two (ta := wpE X a) (tb := wpE X b) ha hb w f fun x y v u B' H' px py s dx dy => by
    subst px py
    obtain ⟨p1, vs, rfl, h1, h2⟩ := den_tup.mp dx
    refine ⟨p1, k, vs, rfl, den_int.mp dy, SqT.of (s.w.s _ _ h1), fun e => hn (List.length_eq_zero_iff.mp (by rw [← h2.length, e]; rfl)), hk.1, hk.2, by rw [h2.length]; omega, fun p hp1 => ?_⟩
    exact q _ _ _ _ rfl (s.trans (.new s.w hp1)) (den_tup.mpr ⟨p, _, rfl, upd_same, (h2.rep _).mono (same_upd (s.w.free hp1))⟩))
/-- a star in a display -/
theorem a_star {xs : List D} {ds : List D} {sp : Pos} (ha : Ev X J Γ a (fun d => d = .lst xs ∨ d = .tup xs)) (hr : EvA X J Γ es (· = ds)) (hs : starEach (.Starred a sp :: es) X.env = (true, eval a X.env) :: starEach es X.env := by rfl) : EvA X J Γ (.Starred a sp :: es) (· = xs ++ ds) := fun σ B H w f Q q => by
  have h1 : StX.tStar X.K (wpE X a) (wpA X es) σ H Q := by
    refine ha σ B H w f _ fun x v B1 H1 px s1 dx => ?_
    have fin : ∀ (p1 : Addr) (vs : List V), v = .ref p1 → (SqT X.K H1 p1 vs ∨ SqL X.K H1 p1 vs) → Dens X.K J xs B1 vs → ∃ a xs, v = .ref a ∧ (SqT X.K H1 a xs ∨ SqL X.K H1 a xs) ∧ wpA X es σ H1 fun vs H2 => Q (xs ++ vs) H2 := fun p1 vs e1 e2 e3 =>
      ⟨p1, vs, e1, e2, hr σ B1 H1 s1.w (f.mono s1.b) _ fun ds' us B2 H2 pd s2 d2 => q _ _ B2 H2 (by rw [pd]) (s1.trans s2) ((e3.mono s2.b).append d2)⟩
    rcases px with px | px <;> subst px
    · obtain ⟨p1, vs, e1, h1, h2⟩ := den_lst.mp dx
      exact fin p1 vs e1 (.inr (SqL.of (s1.w.s _ _ h1))) h2
    · obtain ⟨p1, vs, e1, h1, h2⟩ := den_tup.mp dx
      exact fin p1 vs e1 (.inl (SqT.of (s1.w.s _ _ h1))) h2
  exact ofA (StX.pa_star wpE.pe wpA.pa hs) h1
end
end Z
end
section
set_option Elab.async false
set_option linter.all false
set_option maxRecDepth 100000
set_option maxHeartbeats 2000000
namespace Z
open PySem PySem.Spec PyProof.Rows L2 RZ
/-! ### what is walked -/
def wpI (X : Cx) (tg iter : Expr) : TI := fun σ H R => ∀ (pins : List (Addr × Obj)) (s : Shared), Inv X pins σ H s →
  wpAny (model X.prog X.w) X.A (eval iter X.env) (fun v s1 => wpAny (model X.prog X.w) X.A (pyIter v) (PIE X pins σ tg R) X.xe s1) X.xe s
def wpG (X : Cx) (tg : Expr) : TG := fun v σ H Q => ∀ (pins : List (Addr × Obj)) (s : Shared) (u : Value), Inv X pins σ H s → RelV v u →
  wpAny (model X.prog X.w) X.A (assign tg X.env u) (fun _ s' => ∃ σ' H', Inv X pins σ' H' s' ∧ Q σ' H') X.xe s
section
variable {X : Cx} {tg iter : Expr}
theorem wpI.pi : PI X tg iter (wpI X tg iter) := ⟨fun pins s _ _ _ I h => h pins s I⟩
theorem wpG.pg : PG X tg (wpG X tg) := ⟨fun pins s _ _ v u _ I r h => h pins s u I r⟩
theorem ofI {t : TI} (h : PI X tg iter t) {σ : L2.St} {H : Hp} {R : It → Hp → Prop} (q : t σ H R) : wpI X tg iter σ H R := fun pins s I => h.run pins s σ H R I q
theorem ofG {t : TG} (h : PG X tg t) {v : V} {σ : L2.St} {H : Hp} {Q : L2.St → Hp → Prop} (q : t v σ H Q) : wpG X tg v σ H Q := fun pins s u I r => h.run pins s σ H v u Q I r q
end
/-- an iterator gives these data, one a turn -/
structure ItOk (K : PySem.W.Frag) (J : Jx) (T : It) (B : Hp) (ds : List D) : Prop where
  wk : L2.Walk T ds.length (fun H => ∃ B1, W J B1 H ∧ Same B B1) (fun i H x H' => ∀ B1, W J B1 H → Same B B1 → ∃ B' d, ds[i]? = some d ∧ Stp J B1 H B' H' ∧ Den K J d B' x)
def EvI (X : Cx) (J : Jx) (Γ : Gam) (tg iter : Expr) (P : List D → Prop) : Prop := ∀ (σ : L2.St) (B H : Hp), W J B H → Fit X.K J Γ σ B → ∀ R : It → Hp → Prop,
  (∀ ds T B' H', P ds → Stp J B H B' H' → ItOk X.K J T B' ds → R T H') → wpI X tg iter σ H R
section
variable {K : PySem.W.Frag} {J : Jx} {B H : Hp}
theorem it_list {a : Addr} {vs : List V} {ds : List D} (h : B a = some (.lst vs)) (hd : Dens K J ds B vs) : ItOk K J (Itl K a) B ds := ⟨by
  rw [← hd.length]
  refine (walk_list (K := K) (a := a) (xs := vs)).mono (fun H ⟨B1, w, e⟩ => SqL.of (w.s _ _ (e _ _ h))) fun i H x H' hi e y B1 w s => ?_
  obtain ⟨e1, e2⟩ := y
  subst e1
  obtain ⟨d, h1, h2⟩ := hd.get' e2
  exact ⟨B1, d, h1, .refl w, h2.mono s⟩⟩
theorem it_tup {a : Addr} {vs : List V} {ds : List D} (h : B a = some (.tup vs)) (hd : Dens K J ds B vs) : ItOk K J (Itt K a) B ds := ⟨by
  rw [← hd.length]
  refine (walk_tup (K := K) (a := a) (xs := vs)).mono (fun H ⟨B1, w, e⟩ => SqT.of (w.s _ _ (e _ _ h))) fun i H x H' hi e y B1 w s => ?_
  obtain ⟨e1, e2⟩ := y
  subst e1
  obtain ⟨d, h1, h2⟩ := hd.get' e2
  exact ⟨B1, d, h1, .refl w, h2.mono s⟩⟩
theorem it_range {lo : Int} {n : Nat} : ItOk K J (Itr lo n) B ((List.range n).map fun (i : Nat) => D.int (lo + (i : Int))) := ⟨by
  rw [List.length_map, List.length_range]
  refine (walk_range (lo := lo) (n := n)).mono (fun _ _ => trivial) fun i H x H' hi e y B1 w s => ?_
  obtain ⟨e1, e2⟩ := y
  subst e1
  exact ⟨B1, _, by rw [List.getElem?_map, List.getElem?_range hi]; rfl, .refl w, den_int.mpr e2⟩⟩
/-- a new pair -/
theorem pair_new {T : Addr} {x y : V} {d e : D} (w : W J B H) (hT : H T = none) (hx : Den K J d B x) (hy : Den K J e B y) : Stp J B H (upd B T (.tup [x, y])) (upd H T (.tup [x, y])) ∧ Den K J (.tup [d, e]) (upd B T (.tup [x, y])) (.ref T) := by
  have sb := same_upd (o := HO.tup [x, y]) (w.free hT)
  exact ⟨.new w hT, den_tup.mpr ⟨T, _, rfl, upd_same, dens_cons.mpr ⟨x, [y], rfl, hx.mono sb, dens_cons.mpr ⟨y, [], rfl, hy.mono sb, dens_nil.mpr rfl⟩⟩⟩⟩
theorem it_enum {a : Addr} {vs : List V} {ds : List D} (h : B a = some (.lst vs)) (hd : Dens K J ds B vs) : ItOk K J (Ite K a) B (ds.zipIdx.map fun q => D.tup [.int (q.2 : Nat), q.1]) := ⟨by
  rw [List.length_map, List.length_zipIdx, ← hd.length]
  refine (walk_enum (K := K) (a := a) (xs := vs)).mono (fun H ⟨B1, w, e⟩ => SqL.of (w.s _ _ (e _ _ h))) fun i H x H' hi e y B1 w s => ?_
  obtain ⟨T, x1, x2, e1, e2, e3, e4, e5⟩ := y
  obtain ⟨d, h1, h2⟩ := hd.get' e5
  have e4 : V.int (i : Nat) = x1 := Option.some.inj e4
  subst e1 e3 e4
  obtain ⟨s1, s2⟩ := pair_new (K := K) (d := .int (i : Nat)) w e2 (den_int.mpr rfl) (h2.mono s)
  exact ⟨_, _, by rw [List.getElem?_map, List.getElem?_zipIdx, h1]; simp, s1, s2⟩⟩
theorem it_zip {a b : Addr} {vs us : List V} {ds es : List D} (h : B a = some (.lst vs)) (h' : B b = some (.lst us)) (hd : Dens K J ds B vs) (he : Dens K J es B us) : ItOk K J (Itz K a b) B ((ds.zip es).map fun q => D.tup [q.1, q.2]) := ⟨by
  rw [List.length_map, List.length_zip, ← hd.length, ← he.length]
  refine (walk_zip (K := K) (a := a) (b := b) (xs := vs) (ys := us) rfl).mono (fun H ⟨B1, w, e⟩ => ⟨SqL.of (w.s _ _ (e _ _ h)), SqL.of (w.s _ _ (e _ _ h'))⟩) fun i H x H' hi e y B1 w s => ?_
  obtain ⟨T, x1, x2, e1, e2, e3, e4, e5⟩ := y
  obtain ⟨d, h1, h2⟩ := hd.get' e4
  obtain ⟨d', h3, h4⟩ := he.get' e5
  subst e1 e3
  obtain ⟨s1, s2⟩ := pair_new (K := K) w e2 (h2.mono s) (h4.mono s)
  exact ⟨_, _, by rw [List.getElem?_map, show (ds.zip es)[i]? = some (d, d') by rw [List.getElem?_zip_eq_some]; exact ⟨h1, h3⟩]; rfl, s1, s2⟩⟩
theorem it_zipT {a b : Addr} {vs us : List V} {ds es : List D} (h : B a = some (.tup vs)) (h' : B b = some (.tup us)) (hd : Dens K J ds B vs) (he : Dens K J es B us) : ItOk K J (ItzT K a b) B ((ds.zip es).map fun q => D.tup [q.1, q.2]) := ⟨by
  rw [List.length_map, List.length_zip, ← hd.length, ← he.length]
  refine ⟨fun i H hi ⟨B1, w, e⟩ => ?_, fun H ⟨B1, w, e⟩ => ⟨vs, us, SqT.of (w.s _ _ (e _ _ h)), SqT.of (w.s _ _ (e _ _ h')), by omega⟩, fun i H x H' hi e y B1 w s => ?_⟩
  · have h1 : i < vs.length := by omega
    have h2 : i < us.length := by omega
    exact ⟨vs, us, vs[i], us[i], SqT.of (w.s _ _ (e _ _ h)), SqT.of (w.s _ _ (e _ _ h')), by simp [h1], by simp [h2]⟩
  · obtain ⟨T, x1, x2, e1, e2, e3, e4, e5⟩ := y
    obtain ⟨d, h1, h2⟩ := hd.get' (e4 vs (SqT.of (w.s _ _ (s _ _ h))))
    obtain ⟨d', h3, h4⟩ := he.get' (e5 us (SqT.of (w.s _ _ (s _ _ h'))))
    subst e1 e3
    obtain ⟨s1, s2⟩ := pair_new (K := K) w e2 (h2.mono s) (h4.mono s)
    exact ⟨_, _, by rw [List.getElem?_map, show (ds.zip es)[i]? = some (d, d') by rw [List.getElem?_zip_eq_some]; exact ⟨h1, h3⟩]; rfl, s1, s2⟩⟩
end
section
variable {X : Cx} {J : Jx} {Γ : Gam} {tg e a b : Expr} {pos : Pos}
theorem i_listP {P : List D → Prop} (h : Ev X J Γ e fun d => ∃ ds, d = .lst ds ∧ P ds) : EvI X J Γ tg e P := fun σ B H w f R q =>
  ofI (pi_list wpE.pe) (h σ B H w f _ fun d v B1 H1 ⟨ds, ed, p⟩ s1 hd => by
    subst ed
    obtain ⟨x, vs, rfl, h1, h2⟩ := den_lst.mp hd
    exact ⟨x, rfl, ⟨vs, SqL.of (s1.w.s _ _ h1)⟩, q ds _ B1 H1 p s1 (it_list h1 h2)⟩)
theorem i_list {ds : List D} (h : Ev X J Γ e (· = .lst ds)) : EvI X J Γ tg e (· = ds) := i_listP (h.weak fun _ p => ⟨ds, p, rfl⟩)
theorem i_tup {ds : List D} (h : Ev X J Γ e (· = .tup ds)) : EvI X J Γ tg e (· = ds) := fun σ B H w f R q =>
  ofI (pi_tup wpE.pe) (h σ B H w f _ fun d v B1 H1 p s1 hd => by
    subst p
    obtain ⟨x, vs, rfl, h1, h2⟩ := den_tup.mp hd
    exact ⟨x, rfl, ⟨vs, SqT.of (s1.w.s _ _ h1)⟩, q _ _ B1 H1 rfl s1 (it_tup h1 h2)⟩)
theorem i_range1 {n : Int} {p : Pos} (h : Ev X J Γ e (· = .int n)) (hn : -(2 ^ 62) ≤ n ∧ n < 2 ^ 62) (hm : X.mg "range" = none) (hg : Gl X "range" := by rfl) (hs : starEach [e] X.env = [(false, eval e X.env)] := by rfl) : EvI X J Γ tg (.Call (.Name "range" p) [e] [] pos) (· = (List.range n.toNat).map fun (i : Nat) => D.int (i : Int)) := fun σ B H w f R q =>
  ofI (pi_range1 hg hm (pa_cons wpE.pe pa_nil hs) hs) (h σ B H w f _ fun d v B1 H1 p s1 hd => by
    subst p
    refine ⟨n, by rw [den_int.mp hd], hn.1, hn.2, q _ _ B1 H1 rfl s1 ?_⟩
    have z := it_range (K := X.K) (J := J) (B := B1) (lo := 0) (n := n.toNat)
    simp only [Int.zero_add] at z
    exact z)
theorem i_range2 {lo n : Int} {p : Pos} (h : Ev X J Γ a (· = .int lo)) (h' : Ev X J Γ b (· = .int n)) (hl : -(2 ^ 62) ≤ lo ∧ lo < 2 ^ 62) (hn : -(2 ^ 62) ≤ n ∧ n < 2 ^ 62) (hm : X.mg "range" = none) (hg : Gl X "range" := by rfl)
    (hs : starEach [a, b] X.env = [(false, eval a X.env), (false, eval b X.env)] := by rfl) (hs2 : starEach [b] X.env = [(false, eval b X.env)] := by rfl) : EvI X J Γ tg (.Call (.Name "range" p) [a, b] [] pos) (· = (List.range (n - lo).toNat).map fun (i : Nat) => D.int (lo + (i : Int))) := fun σ B H w f R q =>
  ofI (pi_range2 hg hm (pa_cons wpE.pe (pa_cons wpE.pe pa_nil hs2) (by rw [hs, hs2])) hs hs2) (h σ B H w f _ fun d v B1 H1 p s1 hd => h' σ B1 H1 s1.w (f.mono s1.b) _ fun d2 v2 B2 H2 p2 s2 hd2 => by
    subst p p2
    exact ⟨lo, n, by rw [den_int.mp hd, den_int.mp hd2], ⟨hl.1, hl.2, hn.1, hn.2⟩, q _ _ B2 H2 rfl (s1.trans s2) it_range⟩)
theorem i_enum {ds : List D} {elts : List Expr} {kk : Nat} {p tpos : Pos} (h : Ev X J Γ e (· = .lst ds)) (hm : X.mg "enumerate" = none) (hg : Gl X "enumerate" := by rfl) (hs : starEach [e] X.env = [(false, eval e X.env)] := by rfl) :
    EvI X J Γ (.Tuple elts kk tpos) (.Call (.Name "enumerate" p) [e] [] pos) (· = ds.zipIdx.map fun q => D.tup [.int (q.2 : Nat), q.1]) := fun σ B H w f R q =>
  ofI (pi_enum hg hm (pa_cons wpE.pe pa_nil hs) hs) (h σ B H w f _ fun d v B1 H1 p s1 hd => by
    subst p
    obtain ⟨x, vs, rfl, h1, h2⟩ := den_lst.mp hd
    exact ⟨x, vs, rfl, SqL.of (s1.w.s _ _ h1), q _ _ B1 H1 rfl s1 (it_enum h1 h2)⟩)
theorem i_zip {ds es : List D} {elts : List Expr} {kk : Nat} {p tpos : Pos} (h : Ev X J Γ a (· = .lst ds)) (h' : Ev X J Γ b (· = .lst es)) (hm : X.mg "zip" = none) (hg : Gl X "zip" := by rfl)
    (hs : starEach [a, b] X.env = (false, eval a X.env) :: starEach [b] X.env := by rfl) (hs2 : starEach [b] X.env = (false, eval b X.env) :: starEach [] X.env := by rfl) (hpl : (backTo pos (starEach [b] X.env)).any (·.1) = false := by rfl) :
    EvI X J Γ (.Tuple elts kk tpos) (.Call (.Name "zip" p) [a, b] [] pos) (· = (ds.zip es).map fun q => D.tup [q.1, q.2]) := fun σ B H w f R q =>
  ofI (pi_zipA hg hm (pa_cons wpE.pe (pa_cons wpE.pe pa_nil hs2) hs) hs hpl) (h σ B H w f _ fun d v B1 H1 p s1 hd => h' σ B1 H1 s1.w (f.mono s1.b) _ fun d2 v2 B2 H2 p2 s2 hd2 => by
    subst p p2
    obtain ⟨x, vs, rfl, h1, h2⟩ := den_lst.mp (hd.mono s2.b)
    obtain ⟨x', vs', rfl, h3, h4⟩ := den_lst.mp hd2
    have s := s1.trans s2
    exact ⟨x, x', vs, vs', rfl, .inl ⟨SqL.of (s.w.s _ _ h1), SqL.of (s.w.s _ _ h3), q _ _ B2 H2 rfl s (it_zip h1 h3 h2 h4)⟩⟩)
theorem i_zipT {ds es : List D} {elts : List Expr} {kk : Nat} {p tpos : Pos} (h : Ev X J Γ a (· = .tup ds)) (h' : Ev X J Γ b (· = .tup es)) (hm : X.mg "zip" = none) (hg : Gl X "zip" := by rfl)
    (hs : starEach [a, b] X.env = (false, eval a X.env) :: starEach [b] X.env := by rfl) (hs2 : starEach [b] X.env = (false, eval b X.env) :: starEach [] X.env := by rfl) (hpl : (backTo pos (starEach [b] X.env)).any (·.1) = false := by rfl) :
    EvI X J Γ (.Tuple elts kk tpos) (.Call (.Name "zip" p) [a, b] [] pos) (· = (ds.zip es).map fun q => D.tup [q.1, q.2]) := fun σ B H w f R q =>
  ofI (pi_zipA hg hm (pa_cons wpE.pe (pa_cons wpE.pe pa_nil hs2) hs) hs hpl) (h σ B H w f _ fun d v B1 H1 p s1 hd => h' σ B1 H1 s1.w (f.mono s1.b) _ fun d2 v2 B2 H2 p2 s2 hd2 => by
    subst p p2
    obtain ⟨x, vs, rfl, h1, h2⟩ := den_tup.mp (hd.mono s2.b)
    obtain ⟨x', vs', rfl, h3, h4⟩ := den_tup.mp hd2
    have s := s1.trans s2
    exact ⟨x, x', vs, vs', rfl, .inr ⟨SqT.of (s.w.s _ _ h1), SqT.of (s.w.s _ _ h3), q _ _ B2 H2 rfl s (it_zipT h1 h3 h2 h4)⟩⟩)
end
/-! ### targets -/
/-- the datum d stored by the target: f tells the slots behind, sl those that it stores -/
def Tg (X : Cx) (J : Jx) (tg : Expr) (d : D) (sl : List Nat) (f : Gam → Gam) : Prop := ∀ (σ : L2.St) (B H : Hp) (v : V) (Γ : Gam), W J B H → Fit X.K J Γ σ B → Den X.K J d B v → ∀ Q : L2.St → Hp → Prop,
  (∀ σ', Fit X.K J (f Γ) σ' B → (∀ k : Nat, k ∉ sl → σ'[k]? = σ[k]?) → σ'.length = σ.length → Q σ' H) → wpG X tg v σ H Q
def Tgs (X : Cx) (J : Jx) (tgs : List Expr) (ds : List D) (sl : List Nat) (f : Gam → Gam) (t : TGs) : Prop := PGs X tgs t ∧ ∀ (σ : L2.St) (B H : Hp) (vs : List V) (Γ : Gam), W J B H → Fit X.K J Γ σ B → Dens X.K J ds B vs → ∀ Q : L2.St → Hp → Prop,
  (∀ σ', Fit X.K J (f Γ) σ' B → (∀ k : Nat, k ∉ sl → σ'[k]? = σ[k]?) → σ'.length = σ.length → Q σ' H) → t vs σ H Q
section
variable {X : Cx} {J : Jx} {tg : Expr} {tgs : List Expr} {d : D} {ds : List D} {sl sl' : List Nat} {f g : Gam → Gam} {pos : Pos}
theorem fit_set {K : PySem.W.Frag} {Γ : Gam} {σ : L2.St} {B : Hp} {v : V} {i : Nat} (h : Fit K J Γ σ B) (hv : Den K J d B v) : Fit K J (Γ.set i (some d)) (σ.set i (some v)) B := ⟨fun k d' e => by
  rw [get_set] at e
  by_cases hk : i = k
  · subst hk
    rw [if_pos rfl] at e
    by_cases hl : i < Γ.length
    · rw [if_pos hl] at e
      have : d = d' := by injection e with e; injection e
      subst this
      exact ⟨v, by rw [get_set, if_pos rfl, if_pos (by rw [h.l]; exact hl)], hv⟩
    · rw [if_neg hl] at e
      cases e
  · rw [if_neg hk] at e
    obtain ⟨u, h1, h2⟩ := h.g k d' e
    exact ⟨u, by rw [List.getElem?_set_ne hk]; exact h1, h2⟩, by rw [List.length_set, List.length_set]; exact h.l⟩
theorem tg_name (i : Nat) {x : Str} {p : Pos} (hN : X.N.Nodup) (hi : X.N[i]? = some x := by rfl) (hx : Loc X.env.scope x := by first | exact Or.inl rfl | exact Or.inr rfl) (hf : X.fn x = true ∨ X.env.scope.names.lookup x = some .local := by first | exact .inl rfl | exact .inr rfl) :
    Tg X J (.Name x p) d [i] (fun Γ => Γ.set i (some d)) := fun σ B H v Γ w h hv Q q =>
  ofG (pg_name hN hi hx hf) (q _ (fit_set h hv) (fun k hk => List.getElem?_set_ne (by simpa [eq_comm] using hk)) (by rw [List.length_set]))
theorem tgs_nil : Tgs X J [] [] [] id gNil := ⟨pgs_nil, fun σ B H vs Γ w h hd Q q => ⟨dens_nil.mp hd, q σ h (fun _ _ => rfl) rfl⟩⟩
theorem tgs_cons {t : TGs} (h1 : Tg X J tg d sl f) (h2 : Tgs X J tgs ds sl' g t) (hs : (assignEach (tg :: tgs) X.env).map (·.2) = assign tg X.env :: (assignEach tgs X.env).map (·.2) := by rfl) : Tgs X J (tg :: tgs) (d :: ds) (sl ++ sl') (fun Γ => g (f Γ)) (gCons (wpG X tg) t) :=
  ⟨pgs_cons wpG.pg h2.1 hs, fun σ B H vs Γ w h hd Q q => by
    obtain ⟨v, r, e, hv, hr⟩ := dens_cons.mp hd
    refine ⟨v, r, e, h1 σ B H v Γ w h hv _ fun σ1 k1 k3 k4 => ?_⟩
    refine h2.2 σ1 B H r (f Γ) w k1 hr _ fun σ2 j1 j3 j4 => q σ2 j1 (fun k hk => ?_) (j4.trans k4)
    rw [List.mem_append, not_or] at hk
    rw [j3 k hk.2, k3 k hk.1]⟩
theorem tg_tup {t : TGs} {k : Nat} (h : Tgs X J tgs ds sl f t) (hc : X.calm = true := by rfl) (hn : (assignEach tgs X.env).length = ds.length := by rfl) (hst : (assignEach tgs X.env).findIdx? (·.1) = none := by rfl) : Tg X J (.Tuple tgs k pos) (.tup ds) sl f := fun σ B H v Γ w hf hv Q q =>
  ofG (pg_tup hc h.1 hn hst) (by
    obtain ⟨a, vs, rfl, h1, h2⟩ := den_tup.mp hv
    exact ⟨a, vs, rfl, SqT.of (w.s _ _ h1), h2.length, h.2 σ B H vs Γ w hf h2 Q q⟩)
end
/-! ### for -/
section
variable {X : Cx} {J : Jx} {B0 H0 : Hp} {Γ : Gam} {O : Own} {N M : Sp3} {R : Rp} {tg iter e : Expr} {body rest : List Stmt} {pos : Pos}
theorem S.tgt {K : PySem.W.Frag} {B H : Hp} {σ σ' : L2.St} {Γ' : Gam} {sl : List Nat} (s : S K J B0 H0 Γ O σ B H) (h1 : Fit K J Γ' σ' B) (h3 : ∀ k, k ∉ sl → σ'[k]? = σ[k]?) (hO : ∀ q ∈ O, q.1 ∉ sl) : S K J B0 H0 Γ' O σ' B H :=
  ⟨s.st, h1, fun q hq => by
    obtain ⟨a, vs, o⟩ := s.own q hq
    exact ⟨a, vs, by rw [h3 _ (hO q hq)]; exact o.at_, o.nj, o.new, o.out, o.lst, o.den⟩, fun q hq r hr ne a => by rw [h3 _ (hO q hq), h3 _ (hO r hr)]; exact s.dj q hq r hr ne a, h1.l⟩
/-- a for: Pf tells what is carried, by the turn -/
theorem hb_for {α : Type} {PI : List D → Prop} {sl : List Nat} (f : D → Gam → Gam) (Pf : List D → Nat → α → Prop) (Γf : List D → Nat → α → Gam) (Of : List D → Nat → α → Own) (x0 : α) (hi : EvI X J Γ tg iter PI)
    (h0 : ∀ ds, PI ds → Pf ds 0 x0 ∧ ∀ σ B H, SX X J B0 H0 Γ O σ B H → SX X J B0 H0 (Γf ds 0 x0) (Of ds 0 x0) σ B H) (ht : ∀ ds : List D, PI ds → ∀ (i : Nat) d, ds[i]? = some d → Tg X J tg d sl (f d)) (hO : ∀ ds i x, ∀ q ∈ Of ds i x, q.1 ∉ sl)
    (hb : ∀ ds : List D, PI ds → ∀ (i : Nat) d x, ds[i]? = some d → Pf ds i x → HB X body (SX X J B0 H0 (f d (Γf ds i x)) (Of ds i x)) (fun σ B H => ∃ x', Pf ds (i + 1) x' ∧ SX X J B0 H0 (Γf ds (i + 1) x') (Of ds (i + 1) x') σ B H) R)
    (hn : ∀ ds, PI ds → ∀ x, Pf ds ds.length x → HB X rest (SX X J B0 H0 (Γf ds ds.length x) (Of ds ds.length x)) N R) (hp : PassesOwn (model X.prog X.w) X.A X.env X.xe) (hc : X.calm = true := by rfl) (hs : ∀ x, foldedSetIterable iter X.env x = pure x := by intro _; rfl) :
    HB X (.For tg iter body [] pos :: rest) (SX X J B0 H0 Γ O) N R :=
  hb_cons (M := fun σ B H => ∃ ds, PI ds ∧ ∃ x, Pf ds ds.length x ∧ SX X J B0 H0 (Γf ds ds.length x) (Of ds ds.length x) σ B H)
    (fun σ B H s E n r => ofS (ps_for hp hc wpI.pi wpG.pg wpSs.pss hs) (hi σ B H s.w s.fit _ fun ds T B1 H1 pd s1 it => by
      obtain ⟨p0, k0⟩ := h0 ds pd
      refine for_it it.wk (fun i σ' H' => ∃ B', Same B1 B' ∧ ∃ x, Pf ds i x ∧ SX X J B0 H0 (Γf ds i x) (Of ds i x) σ' B' H') ⟨B1, .refl _, x0, p0, k0 σ B1 H1 (s.step s1)⟩ (fun i σ' H' _ ⟨B', e, x, _, s'⟩ => ⟨B', s'.w, e⟩) (fun i x σ' H' H2 hi ⟨B', e, c, pc, s'⟩ y => ?_) (fun σ' H' ⟨B', e, x, px, s'⟩ => n σ' B' H' (s1.b.trans e) ⟨ds, pd, x, px, s'⟩)
      obtain ⟨B2, d, ed, t, hd⟩ := y B' s'.w e
      have s2 := s'.step t
      refine ht ds pd i d ed σ' B2 H2 x _ s2.w s2.fit hd _ fun σ3 f1 f3 f4 => ?_
      have s3 := s2.tgt f1 f3 (hO ds i c)
      exact hb ds pd i d c ed pc σ3 B2 H2 s3 _ (fun σ4 B4 H4 e4 ⟨x', px', s4⟩ => ⟨B4, (e.trans t.b).trans e4, x', px', s4⟩) fun v B4 H4 e4 => r v B4 H4 (((s1.b.trans e).trans t.b).trans e4)))
    (.ex fun ds σ B H ⟨pd, x, px, s⟩ => hn ds pd x px σ B H s)
/-- a while: by a measure -/
theorem hb_while {α : Type} {c : Expr} (Pf : α → Prop) (Γf : α → Gam) (Of : α → Own) (μ : α → Nat) (PT : α → Bool → Prop) (x0 : α) (p0 : Pf x0) (h0 : ∀ σ B H, SX X J B0 H0 Γ O σ B H → SX X J B0 H0 (Γf x0) (Of x0) σ B H) (hc : ∀ x, Pf x → EvT X J (Γf x) c (PT x))
    (hb : ∀ x, Pf x → PT x true → HB X body (SX X J B0 H0 (Γf x) (Of x)) (fun σ B H => ∃ x', Pf x' ∧ μ x' < μ x ∧ SX X J B0 H0 (Γf x') (Of x') σ B H) R) (hn : ∀ x, Pf x → PT x false → HB X rest (SX X J B0 H0 (Γf x) (Of x)) N R) (hp : PassesOwn (model X.prog X.w) X.A X.env X.xe) :
    HB X (.While c body [] pos :: rest) (SX X J B0 H0 Γ O) N R :=
  hb_cons (M := fun σ B H => ∃ x, Pf x ∧ PT x false ∧ SX X J B0 H0 (Γf x) (Of x) σ B H)
    (fun σ B H s E n r => ofS (ps_while hp wpT.pt wpSs.pss) (by
      refine ⟨fun m σ' H' => ∃ B', Same B B' ∧ ∃ x, Pf x ∧ m = μ x ∧ SX X J B0 H0 (Γf x) (Of x) σ' B' H', ⟨_, B, .refl _, x0, p0, rfl, h0 σ B H s⟩, ?_⟩
      rintro m σ' H' ⟨B', e, x, px, rfl, s'⟩
      refine hc x px σ' B' H' s'.w s'.fit _ fun b B1 H1 pb t => ?_
      have s1 := s'.step t
      cases b with
      | true =>
        refine iteT ⟨fun σ2 H2 => ∃ B2, Same B B2 ∧ ∃ x', Pf x' ∧ μ x' < μ x ∧ SX X J B0 H0 (Γf x') (Of x') σ2 B2 H2, fun σ2 H2 ⟨B2, e2, x', p', l, s2⟩ => ⟨μ x', l, B2, e2, x', p', rfl, s2⟩, ?_⟩
        exact hb x px pb σ' B1 H1 s1 _ (fun σ2 B2 H2 e2 ⟨x', p', l, s2⟩ => ⟨B2, (e.trans t.b).trans e2, x', p', l, s2⟩) fun v B2 H2 e2 => r v B2 H2 ((e.trans t.b).trans e2)
      | false => exact iteF (n σ' B1 H1 (e.trans t.b) ⟨x, px, pb, s1⟩)))
    (.ex fun x σ B H ⟨px, pf, s⟩ => hn x px pf σ B H s)
/-- a, b, .. = a tuple -/
theorem hb_unp {P : D → Prop} {sl : List Nat} (f : D → Gam → Gam) (h : Ev X J Γ e P) (ht : ∀ d, P d → Tg X J tg d sl (f d)) (k : ∀ d, P d → HB X rest (SX X J B0 H0 (f d Γ) O) N R) (hO : ∀ q ∈ O, q.1 ∉ sl := by simp) (hs : swapsWithSole [tg] e pos.line X.env = pure false := by rfl) (hw : swappedStores [tg] e X.env = pure none := by rfl)
    (h1 : (assignEach [tg] X.env).map (·.2) = [assign tg X.env] := by rfl) : HB X (.Assign [tg] e pos :: rest) (SX X J B0 H0 Γ O) N R :=
  hb_cons (M := fun σ B H => ∃ d, P d ∧ SX X J B0 H0 (f d Γ) O σ B H)
    (fun σ B H s E n _ => ofS (ps_asg wpE.pe wpG.pg hs hw h1) (h σ B H s.w s.fit _ fun d v B1 H1 p t hd => by
      have s1 := s.step t
      exact ht d p σ B1 H1 v Γ s1.w s1.fit hd _ fun σ3 f1 f3 f4 => n σ3 B1 H1 t.b ⟨d, p, s1.tgt f1 f3 hO⟩))
    (.ex fun d σ B H ⟨p, s⟩ => k d p σ B H s)
end
/-! ### list comprehensions -/
/-- the contexts of a comprehension's block -/
abbrev Blk (X : Cx) (scope : Scope) (Y : Cx) : Prop := ∃ (s : Shared) (H : Hp) (C : Addr) (cl : List (Str × Addr)) (fp : List Addr), Y = X.blk s H scope (compEnvC scope cl C X.env) fp
def famE (X : Cx) (scope : Scope) (e : Expr) : TE := fun σ H Q => ∀ Y, Blk X scope Y → wpE Y e σ H Q
def famT (X : Cx) (scope : Scope) (ifs : List Expr) : TT := fun σ H Q => ∀ Y, Blk X scope Y → ∀ (pins : List (Addr × Obj)) (s : Shared), Inv Y pins σ H s →
  wpAny (model Y.prog Y.w) Y.A (forIn ifs true fun c r => if r = true then do let ok ← isTrue c Y.env (eval c Y.env); pure (ForInStep.yield ok) else pure (ForInStep.yield r)) (TP Y pins σ Q) Y.xe s
def famG (X : Cx) (scope : Scope) (tg : Expr) : TG := fun v σ H Q => ∀ Y, Blk X scope Y → wpG Y tg v σ H Q
def EvTs (X : Cx) (J : Jx) (Γ : Gam) (ifs : List Expr) (k : Bool) : Prop := ∀ (σ : L2.St) (B H : Hp), W J B H → Fit X.K J Γ σ B → ∀ Q : Bool → Hp → Prop, (∀ B' H', Stp J B H B' H' → Q k H') → ∀ (pins : List (Addr × Obj)) (s : Shared), Inv X pins σ H s →
  wpAny (model X.prog X.w) X.A (forIn ifs true fun c r => if r = true then do let ok ← isTrue c X.env (eval c X.env); pure (ForInStep.yield ok) else pure (ForInStep.yield r)) (TP X pins σ Q) X.xe s
theorem ts_nil {X : Cx} {J : Jx} {Γ : Gam} : EvTs X J Γ [] true := fun σ B H w f Q q pins s I => (pts_nil (X := X)).run pins s σ H Q I (q B H (.refl w))
theorem ts_one {X : Cx} {J : Jx} {Γ : Gam} {c : Expr} {k : Bool} (h : EvT X J Γ c (· = k)) : EvTs X J Γ [c] k := fun σ B H w f Q q pins s I =>
  (pts_one (X := X) wpT.pt).run pins s σ H Q I (h σ B H w f Q fun b B' H' e t => by subst e; exact q B' H' t)
theorem wipe_of {σ' σ : L2.St} {sl vs : List Nat} (h : ∀ k : Nat, k ∉ sl → σ'[k]? = (wipe σ vs)[k]?) (l : σ'.length = (wipe σ vs).length) (hs : ∀ k ∈ sl, k ∈ vs) : wipe σ' vs = wipe σ vs := by
  have aux : ∀ (vs : List Nat) (τ : L2.St) (k : Nat), (wipe τ vs)[k]? = if k ∈ vs then (if k < τ.length then some none else none) else τ[k]? := by
    intro vs
    induction vs with
    | nil => intro τ k; simp [wipe]
    | cons v vs ih =>
      intro τ k
      unfold wipe
      rw [get_set]
      by_cases hk : v = k
      · subst hk
        rw [if_pos rfl, if_pos List.mem_cons_self, wipe_length]
      · rw [if_neg hk, ih]
        have : (k ∈ v :: vs) ↔ k ∈ vs := by simp [Ne.symm hk]
        simp only [this]
  apply List.ext_getElem?
  intro k
  rw [aux, aux]
  have l' : σ'.length = σ.length := by rw [l, wipe_length]
  by_cases hk : k ∈ vs
  · rw [if_pos hk, if_pos hk, l']
  · rw [if_neg hk, if_neg hk, h k fun z => hk (hs k z), aux, if_neg hk]
def wipeG (Γ : Gam) (vs : List Nat) : Gam := vs.foldr (fun v g => g.set v none) Γ
theorem wipeG_length (Γ : Gam) : ∀ vs : List Nat, (wipeG Γ vs).length = Γ.length
  | [] => rfl
  | v :: vs => by
    show ((wipeG Γ vs).set v none).length = _
    rw [List.length_set, wipeG_length Γ vs]
theorem fit_wipe {K : PySem.W.Frag} {J : Jx} {Γ : Gam} {σ : L2.St} {B : Hp} (h : Fit K J Γ σ B) : ∀ vs : List Nat, Fit K J (wipeG Γ vs) (wipe σ vs) B
  | [] => h
  | v :: vs => ⟨fun k d e => by
    have ih := fit_wipe h vs
    have e : ((wipeG Γ vs).set v none)[k]? = some (some d) := e
    rw [get_set] at e
    by_cases hk : v = k
    · rw [if_pos hk] at e
      split at e <;> cases e
    · rw [if_neg hk] at e
      obtain ⟨u, h1, h2⟩ := ih.g k d e
      refine ⟨u, ?_, h2⟩
      show ((wipe σ vs).set v none)[k]? = _
      rw [List.getElem?_set_ne hk]
      exact h1, by rw [wipe_length, wipeG_length]; exact h.l⟩
section
variable {X : Cx} {J : Jx} {Γ : Gam} {tg iter elt : Expr} {ifs : List Expr} {scope : Scope} {own : List (Str × Nat)} {pos : Pos}
/-- item by item: what comes of each (kept or not) -/
inductive Made {α β : Type} (keep : α → Bool) (P : α → β → Prop) : List α → List β → Prop where
  | nil : Made keep P [] []
  | yes {x : α} {y : β} {xs : List α} {ys : List β} (hk : keep x = true) (h : P x y) (t : Made keep P xs ys) : Made keep P (x :: xs) (y :: ys)
  | no {x : α} {xs : List α} {ys : List β} (hk : keep x = false) (t : Made keep P xs ys) : Made keep P (x :: xs) ys
theorem Made.length {α β : Type} {keep : α → Bool} {P : α → β → Prop} {xs : List α} {ys : List β} (h : Made keep P xs ys) : ys.length ≤ xs.length := by
  induction h with
  | nil => exact Nat.le_refl _
  | yes _ _ _ ih => simpa using ih
  | no _ _ ih => exact Nat.le_trans ih (Nat.le_succ _)
theorem Made.snoc_yes {α β : Type} {keep : α → Bool} {P : α → β → Prop} {xs : List α} {ys : List β} {x : α} {y : β} (h : Made keep P xs ys) (hk : keep x = true) (p : P x y) : Made keep P (xs ++ [x]) (ys ++ [y]) := by
  induction h with
  | nil => exact .yes hk p .nil
  | yes a b _ ih => exact .yes a b ih
  | no a _ ih => exact .no a ih
theorem Made.snoc_no {α β : Type} {keep : α → Bool} {P : α → β → Prop} {xs : List α} {ys : List β} {x : α} (h : Made keep P xs ys) (hk : keep x = false) : Made keep P (xs ++ [x]) ys := by
  induction h with
  | nil => exact .no hk .nil
  | yes a b _ ih => exact .yes a b ih
  | no a _ ih => exact .no a ih
theorem Made.map {α β : Type} {keep : α → Bool} {g : α → β} {xs : List α} {ys : List β} (h : Made keep (fun x y => y = g x) xs ys) : ys = (xs.filter keep).map g := by
  induction h with
  | nil => rfl
  | yes hk p _ ih => rw [List.filter_cons_of_pos hk, List.map_cons, ← ih, p]
  | no hk _ ih => rw [List.filter_cons_of_neg (by rw [hk]; exact Bool.false_ne_true), ← ih]
/-- [elt for tg in iter if ..]: over the data xs told by c -/
theorem lcT {α : Type} {PI : List D → Prop} {PL : List D → Prop} (c : α → D) {sl : List Nat} (f : α → Gam → Gam) (keep : α → Bool) (P : α → D → Prop) (hi : EvI X J Γ tg iter PI) (hN : X.N.Nodup) (ok : BlkOk X.N X.env.scope scope own) (hsl : ∀ k ∈ sl, k ∈ own.map (·.2))
    (hx : ∀ ds, PI ds → ∃ xs : List α, ds = xs.map c ∧ xs.length ≤ 100000 ∧ (∀ x ∈ xs, ∀ Y, Blk X scope Y → Tg Y J tg (c x) sl (f x) ∧ EvTs Y J (f x (wipeG Γ (own.map (·.2)))) ifs (keep x) ∧ (keep x = true → Ev Y J (f x (wipeG Γ (own.map (·.2)))) elt (P x))) ∧ ∀ ys, Made keep P xs ys → PL ys) (σ : L2.St) (B H : Hp) (w : W J B H) (fi : Fit X.K J Γ σ B) (Q : VK) (q : ∀ ds p vs B' H', PL ds → Stp J B H B' H' → H p = none → B' p = none → ¬ J.has p → H' p = some (.lst vs) → Dens X.K J ds B' vs → Q (.ref p) H') :
    tLc (wpI X tg iter) (famG X scope tg) (famT X scope ifs) (famE X scope elt) (own.map (·.2)) σ H Q :=
  hi σ B H w fi _ fun ds T B1 H1 pd s1 it => by
    obtain ⟨xs, rfl, hlen, hall, hPL⟩ := hx ds pd
    intro L hL
    have jn0 : ¬ J.has L := s1.w.nh hL
    have jn : J.jar ≠ some L := has_jar jn0
    have it' := it.wk
    rw [List.length_map] at it'
    refine lc_it it' (fun i H' => ∃ B' acc ys, Stp J B1 H1 B' H' ∧ H' L = some (.lst acc) ∧ B' L = none ∧ Dens X.K J ys B' acc ∧ Made keep P (xs.take i) ys) ⟨B1, [], [], .newO s1.w hL, upd_same, s1.w.free hL, dens_nil.mpr rfl, .nil⟩ (fun i H' _ ⟨B', acc, ys, s, _⟩ => ⟨B', s.w, s.b⟩) (fun i x H' H2 hi ⟨B', acc, ys, s, hLa, hLb, hd, hm⟩ y => ?_) (fun H' ⟨B', acc, ys, s, hLa, hLb, hd, hm⟩ => ?_)
    · obtain ⟨B2, d, ed, t, hx2⟩ := y B' s.w s.b
      rw [List.getElem?_map] at ed
      obtain ⟨x', hx', rfl⟩ : ∃ x', xs[i]? = some x' ∧ c x' = d := by
        cases e : xs[i]? with
        | none => rw [e] at ed; cases ed
        | some x' => rw [e] at ed; exact ⟨x', rfl, Option.some.inj ed⟩
      have hmem : x' ∈ xs := List.mem_of_getElem? hx'
      have h2L : H2 L = some (.lst acc) := (t.own L jn hLb (by rw [hLa]; intro z; cases z)).2.trans hLa
      have b2L : B2 L = none := (t.own L jn hLb (by rw [hLa]; intro z; cases z)).1
      have sfit : Fit X.K J (wipeG Γ (own.map (·.2))) (wipe σ (own.map (·.2))) B2 := (fit_wipe fi _).mono ((s1.b.trans s.b).trans t.b)
      intro Y hY
      have hall' := hall x' hmem
      have KY : Y.K = X.K := by obtain ⟨_, _, _, _, _, rfl⟩ := hY; rfl
      refine (hall' Y hY).1 (wipe σ (own.map (·.2))) B2 H2 x _ t.w (by rw [KY]; exact sfit) (by rw [KY]; exact hx2) _ fun σ3 f1 f3 f4 => ?_
      refine ⟨wipe_of f3 f4 hsl, fun Z hZ pins s' I => ?_⟩
      have KZ : Z.K = X.K := by obtain ⟨_, _, _, _, _, rfl⟩ := hZ; rfl
      refine (hall' Z hZ).2.1 σ3 B2 H2 t.w (by rw [KZ, ← KY]; exact f1) _ (fun B3 H3 t3 => ?_) pins s' I
      have tt := t.trans t3
      have h3L : H3 L = some (.lst acc) := (tt.own L jn hLb (by rw [hLa]; intro z; cases z)).2.trans hLa
      have b3L : B3 L = none := (tt.own L jn hLb (by rw [hLa]; intro z; cases z)).1
      have hst := s.trans tt
      cases hk : keep x' with
      | true =>
        refine iteT fun Z2 hZ2 => ?_
        have KZ2 : Z2.K = X.K := by obtain ⟨_, _, _, _, _, rfl⟩ := hZ2; rfl
        refine (hall' Z2 hZ2).2.2 hk σ3 B3 H3 t3.w (by rw [KZ2, ← KY]; exact f1.mono t3.b) _ fun dy vy B4 H4 py t4 hdy => ?_
        have tt4 := tt.trans t4
        have h4L : H4 L = some (.lst acc) := (tt4.own L jn hLb (by rw [hLa]; intro z; cases z)).2.trans hLa
        have b4L : B4 L = none := (tt4.own L jn hLb (by rw [hLa]; intro z; cases z)).1
        have st4 := s.trans tt4
        refine ⟨acc, h4L, small' ?_, B4, acc ++ [vy], ys ++ [dy], ?_, upd_same, b4L, (hd.mono tt4.b).append (dens_cons.mpr ⟨vy, [], rfl, by rw [← KZ2]; exact hdy, dens_nil.mpr rfl⟩), ?_⟩
        · rw [hd.length]
          refine Nat.lt_of_le_of_lt hm.length ?_
          have hii : i < xs.length := (List.getElem?_eq_some_iff.mp hx').1
          rw [List.length_take]
          omega
        · refine ⟨st4.b, st4.w.mut b4L jn0, fun a ha h1 h2 => ?_⟩
          · have ne : a ≠ L := fun z => h2 (by rw [z]; exact hL)
            obtain ⟨e1, e2⟩ := st4.own a ha h1 h2
            exact ⟨e1, by rw [upd_ne ne]; exact e2⟩
        · rw [List.take_add_one, hx']
          exact hm.snoc_yes hk py
      | false =>
        refine iteF ⟨B3, acc, ys, hst, h3L, b3L, hd.mono tt.b, ?_⟩
        rw [List.take_add_one, hx']
        exact hm.snoc_no hk
    · rw [List.take_of_length_le (Nat.le_refl _)] at hm
      exact q ys L acc B' H' (hPL ys hm) (s1.trans s) (s1.back2 hL) hLb jn0 hLa hd
theorem lcP {α : Type} {PI : List D → Prop} {PL : List D → Prop} (c : α → D) {sl : List Nat} (f : α → Gam → Gam) (keep : α → Bool) (P : α → D → Prop) (hi : EvI X J Γ tg iter PI) (hN : X.N.Nodup) (ok : BlkOk X.N X.env.scope scope own) (hsl : ∀ k ∈ sl, k ∈ own.map (·.2))
    (hx : ∀ ds, PI ds → ∃ xs : List α, ds = xs.map c ∧ xs.length ≤ 100000 ∧ (∀ x ∈ xs, ∀ Y, Blk X scope Y → Tg Y J tg (c x) sl (f x) ∧ EvTs Y J (f x (wipeG Γ (own.map (·.2)))) ifs (keep x) ∧ (keep x = true → Ev Y J (f x (wipeG Γ (own.map (·.2)))) elt (P x))) ∧ ∀ ys, Made keep P xs ys → PL ys)
    (hc : X.calm = true := by rfl) (hs : ∀ x, foldedSetIterable iter X.env x = pure x := by intro _; rfl) : EvO X J Γ (.ListComp elt [⟨tg, iter, ifs, 0⟩] scope pos) PL := fun σ B H w fi Q q =>
  ofE (pe_lc (g := famG X scope tg) (tt := famT X scope ifs) (te := famE X scope elt) hc hN wpI.pi ok
    (fun s H C cl fp => ⟨fun pins s' σ' H' v u Q' I r h => h _ ⟨s, H, C, cl, fp, rfl⟩ pins s' u I r⟩) (fun s H C cl fp => ⟨fun pins s' σ' H' Q' I h => h _ ⟨s, H, C, cl, fp, rfl⟩ pins s' I⟩)
    (fun s H C cl fp => ⟨fun pins s' σ' H' Q' I h => h _ ⟨s, H, C, cl, fp, rfl⟩ pins s' I⟩) hs) (lcT c f keep P hi hN ok hsl hx σ B H w fi Q q)
/-- name = [..] -/
theorem hb_lc {rest : List Stmt} {B0 H0 : Hp} {O O' : Own} {N : Sp3} {R : Rp} {y : Str} {py spos : Pos} (n : Nat) {α : Type} {PI : List D → Prop} {PL : List D → Prop} (c : α → D) {sl : List Nat} (f : α → Gam → Gam) (keep : α → Bool) (P : α → D → Prop) (hi : EvI X J Γ tg iter PI) (hN : X.N.Nodup) (ok : BlkOk X.N X.env.scope scope own) (hsl : ∀ k ∈ sl, k ∈ own.map (·.2))
    (hx : ∀ ds, PI ds → ∃ xs : List α, ds = xs.map c ∧ xs.length ≤ 100000 ∧ (∀ x ∈ xs, ∀ Y, Blk X scope Y → Tg Y J tg (c x) sl (f x) ∧ EvTs Y J (f x (wipeG Γ (own.map (·.2)))) ifs (keep x) ∧ (keep x = true → Ev Y J (f x (wipeG Γ (own.map (·.2)))) elt (P x))) ∧ ∀ ys, Made keep P xs ys → PL ys)
    (k : ∀ ds, PL ds → HB X rest (SX X J B0 H0 (Γ.set n none) ((n, ds) :: O')) N R) (hO : ∀ q ∈ O', q ∈ O ∧ q.1 ≠ n) (hl : n < Γ.length) (hy : X.N[n]? = some y := by rfl) (hyl : X.env.scope.names.lookup y = some .local := by rfl)
    (hsw : swapsWith (.ListComp elt [⟨tg, iter, ifs, 0⟩] scope pos) (some (.Name y py)) spos.line X.env = pure true := by first | rfl | exact sw_true rfl rfl rfl rfl) (hc : X.calm = true := by rfl) (hs : ∀ x, foldedSetIterable iter X.env x = pure x := by intro _; rfl) :
    HB X (.Assign [.Name y py] (.ListComp elt [⟨tg, iter, ifs, 0⟩] scope pos) spos :: rest) (SX X J B0 H0 Γ O) N R := hb_cons (M := fun σ B H => ∃ ds, PL ds ∧ SX X J B0 H0 (Γ.set n none) ((n, ds) :: O') σ B H)
  (fun σ B H s E nx _ => ofS (ps_setLc (g := famG X scope tg) (tt := famT X scope ifs) (te := famE X scope elt) hc hN hy hyl hsw wpI.pi ok
    (fun s H C cl fp => ⟨fun pins s' σ' H' v u Q' I r h => h _ ⟨s, H, C, cl, fp, rfl⟩ pins s' u I r⟩) (fun s H C cl fp => ⟨fun pins s' σ' H' Q' I h => h _ ⟨s, H, C, cl, fp, rfl⟩ pins s' I⟩)
    (fun s H C cl fp => ⟨fun pins s' σ' H' Q' I h => h _ ⟨s, H, C, cl, fp, rfl⟩ pins s' I⟩) hs) (lcT c f keep P hi hN ok hsl hx σ B H s.w s.fit _ fun ds p vs B1 H1 pl t h0 hb hj hv hd => nx _ B1 H1 t.b ⟨ds, pl, s.setO t h0 hb hj hv hd hl hO⟩))
  (.ex fun d σ B H ⟨p, s⟩ => k d p σ B H s)
end
end Z
end
section
set_option Elab.async false
set_option linter.all false
set_option maxRecDepth 100000
set_option maxHeartbeats 2000000
namespace Z
open PySem PySem.Spec PyProof.Rows L2 RZ
/-! ### a list against [] -/
section
variable {X : Cx} {J : Jx} {Γ : Gam} {e a b c : Expr} {es : List Expr} {pos : Pos} {P : D → Prop} {d : D}
theorem op_neNil (hu : X.A.units < cLine) : OpR X (compareOp .NotEq) (fun x y H Q => ∃ (p q : Addr) (xs : List V), x = .ref p ∧ y = .ref q ∧ SqL X.K H p xs ∧ SqL X.K H q [] ∧ Q (.bl (!xs.isEmpty)) H) := by
  intro pins s σ H x y v u Q I rx ry h
  obtain ⟨p, q, xs, rfl, rfl, h1, h2, hq⟩ := h
  cases rx; cases ry
  obtain ⟨its, r, p1, hz⟩ := I.list h1
  obtain ⟨its2, r2, p2, hz2⟩ := I.list h2
  cases r2
  cases xs with
  | nil =>
    cases r
    exact SeqAt.RcNeAt.lists (e := fun _ => true) p1.isList p2.isList rfl hu (fun j h => absurd h (by simp)) X.prog X.w _ _ ⟨.bl false, H, I, rfl, hq⟩
  | cons z zs =>
    cases r
    exact SeqAt.RcNeAt.lists_lengths p1.isList p2.isList (by simp) hu X.prog X.w _ _ ⟨.bl true, H, I, rfl, hq⟩
theorem op_eqNil (hu : X.A.units < cLine) : OpR X (compareOp .Eq) (fun x y H Q => ∃ (p q : Addr) (xs : List V), x = .ref p ∧ y = .ref q ∧ SqL X.K H p xs ∧ SqL X.K H q [] ∧ Q (.bl (xs.isEmpty)) H) := by
  intro pins s σ H x y v u Q I rx ry h
  obtain ⟨p, q, xs, rfl, rfl, h1, h2, hq⟩ := h
  cases rx; cases ry
  obtain ⟨its, r, p1, hz⟩ := I.list h1
  obtain ⟨its2, r2, p2, hz2⟩ := I.list h2
  cases r2
  cases xs with
  | nil =>
    cases r
    exact SeqAt.RcAt.lists (e := fun _ => true) p1.isList p2.isList rfl hu (fun j h => absurd h (by simp)) X.prog X.w _ _ ⟨.bl true, H, I, rfl, hq⟩
  | cons z zs =>
    cases r
    exact SeqAt.RcAt.lists_lengths p1.isList p2.isList (by simp) hu X.prog X.w _ _ ⟨.bl false, H, I, rfl, hq⟩
theorem room_cl {k : Nat} {A : Around} (r : Room k A) : A.units < cLine := by have := r.un; omega
theorem room_64 {k : Nat} {A : Around} (r : Room k A) : A.units + 64 < cLine := by have := r.un; omega
theorem room_65 {k : Nat} {A : Around} (r : Room k A) : A.units + 65 < cLine := by have := r.un; omega
theorem isE {ds : List D} {vs : List V} {K : PySem.W.Frag} {B : Hp} (h : Dens K J ds B vs) : vs.isEmpty = ds.isEmpty := by
  have := h.length
  cases ds <;> cases vs <;> simp_all
theorem t_neNil {ds : List D} {p2} {k : Nat} (hr : Room k X.A) (ha : Ev X J Γ a (· = .lst ds)) : EvT X J Γ (.Compare a [.NotEq] [.List [] p2] pos) (· = !ds.isEmpty) := fun σ B H w f Q q =>
  ofT (pt_cmpR (op_neNil (room_cl hr)) wpE.pe wpE.pe (nomark _)) (two (ta := wpE X a) (tb := wpE X (.List [] p2)) ha (EvO.lst (o_lst a_nil)) w f fun x y v u B' H' px py s dx dy => by
    subst px py
    obtain ⟨p, vs, rfl, h1, h2⟩ := den_lst.mp dx
    obtain ⟨q', us, rfl, h3, h4⟩ := den_lst.mp dy
    rw [dens_nil.mp h4] at h3
    exact ⟨p, q', vs, rfl, rfl, SqL.of (s.w.s _ _ h1), SqL.of (s.w.s _ _ h3), _, rfl, by rw [isE h2]; exact q _ B' H' rfl s⟩)
theorem t_eqNil {ds : List D} {p2} {k : Nat} (hr : Room k X.A) (ha : Ev X J Γ a (· = .lst ds)) : EvT X J Γ (.Compare a [.Eq] [.List [] p2] pos) (· = ds.isEmpty) := fun σ B H w f Q q =>
  ofT (pt_cmpR (op_eqNil (room_cl hr)) wpE.pe wpE.pe (nomark _)) (two (ta := wpE X a) (tb := wpE X (.List [] p2)) ha (EvO.lst (o_lst a_nil)) w f fun x y v u B' H' px py s dx dy => by
    subst px py
    obtain ⟨p, vs, rfl, h1, h2⟩ := den_lst.mp dx
    obtain ⟨q', us, rfl, h3, h4⟩ := den_lst.mp dy
    rw [dens_nil.mp h4] at h3
    exact ⟨p, q', vs, rfl, rfl, SqL.of (s.w.s _ _ h1), SqL.of (s.w.s _ _ h3), _, rfl, by rw [isE h2]; exact q _ B' H' rfl s⟩)
end
/-! ### data against data -/
mutual
/-- ints, texts, tuples and lists of them -/
def pl : D → Bool
  | .int _ => true
  | .str x => PyData.strOk x
  | .tup xs => pls xs
  | .lst xs => pls xs
  | _ => false
def pls : List D → Bool
  | [] => true
  | x :: xs => pl x && pls xs
end
mutual
def toP : D → PyData
  | .int i => .int i
  | .str x => .str x
  | .tup xs => .tuple (toPs xs)
  | .lst xs => .list (toPs xs)
  | _ => .none
def toPs : List D → List PyData
  | [] => []
  | x :: xs => toP x :: toPs xs
end
mutual
theorem eqv_pl : ∀ {x y : D}, pl x = true → pl y = true → (PyData.eqv (toP x) (toP y) = true ↔ x = y)
  | .int i, .int j, _, _ => by simp [toP, PyData.eqv]
  | .int i, .str _, _, _ => by simp [toP, PyData.eqv]
  | .int i, .tup _, _, _ => by simp [toP, PyData.eqv]
  | .int i, .lst _, _, _ => by simp [toP, PyData.eqv]
  | .str _, .int j, _, _ => by simp [toP, PyData.eqv]
  | .str _, .str _, _, _ => by simp [toP, PyData.eqv]
  | .str _, .tup _, _, _ => by simp [toP, PyData.eqv]
  | .str _, .lst _, _, _ => by simp [toP, PyData.eqv]
  | .tup _, .int j, _, _ => by simp [toP, PyData.eqv]
  | .tup _, .str _, _, _ => by simp [toP, PyData.eqv]
  | .tup xs, .tup ys, h, g => by
    have := eqvs_pl (xs := xs) (ys := ys) (by simpa [pl] using h) (by simpa [pl] using g)
    simp only [toP, PyData.eqv, D.tup.injEq]
    exact this
  | .tup _, .lst _, _, _ => by simp [toP, PyData.eqv]
  | .lst _, .int j, _, _ => by simp [toP, PyData.eqv]
  | .lst _, .str _, _, _ => by simp [toP, PyData.eqv]
  | .lst _, .tup _, _, _ => by simp [toP, PyData.eqv]
  | .lst xs, .lst ys, h, g => by
    have := eqvs_pl (xs := xs) (ys := ys) (by simpa [pl] using h) (by simpa [pl] using g)
    simp only [toP, PyData.eqv, D.lst.injEq]
    exact this
  | .non, _, h, _ | .bl _, _, h, _ | .txt, _, h, _ | .book _ _, _, h, _ | .ans _, _, h, _ | .jar, _, h, _ | .scr _, _, h, _ | .tab _, _, h, _ | .tln _, _, h, _ | .tbs _, _, h, _ | .adr _, _, h, _ => by simp [pl] at h
  | .int _, .non, _, h | .int _, .bl _, _, h | .int _, .txt, _, h | .int _, .book _ _, _, h | .int _, .ans _, _, h | .int _, .jar, _, h | .int _, .scr _, _, h | .int _, .tab _, _, h | .int _, .tln _, _, h | .int _, .tbs _, _, h | .int _, .adr _, _, h => by simp [pl] at h
  | .str _, .non, _, h | .str _, .bl _, _, h | .str _, .txt, _, h | .str _, .book _ _, _, h | .str _, .ans _, _, h | .str _, .jar, _, h | .str _, .scr _, _, h | .str _, .tab _, _, h | .str _, .tln _, _, h | .str _, .tbs _, _, h | .str _, .adr _, _, h => by simp [pl] at h
  | .tup _, .non, _, h | .tup _, .bl _, _, h | .tup _, .txt, _, h | .tup _, .book _ _, _, h | .tup _, .ans _, _, h | .tup _, .jar, _, h | .tup _, .scr _, _, h | .tup _, .tab _, _, h | .tup _, .tln _, _, h | .tup _, .tbs _, _, h | .tup _, .adr _, _, h => by simp [pl] at h
  | .lst _, .non, _, h | .lst _, .bl _, _, h | .lst _, .txt, _, h | .lst _, .book _ _, _, h | .lst _, .ans _, _, h | .lst _, .jar, _, h | .lst _, .scr _, _, h | .lst _, .tab _, _, h | .lst _, .tln _, _, h | .lst _, .tbs _, _, h | .lst _, .adr _, _, h => by simp [pl] at h
theorem eqvs_pl : ∀ {xs ys : List D}, pls xs = true → pls ys = true → (PyData.eqvAll (toPs xs) (toPs ys) = true ↔ xs = ys)
  | [], [], _, _ => by simp [toPs, PyData.eqvAll]
  | [], _ :: _, _, _ => by simp [toPs, PyData.eqvAll]
  | _ :: _, [], _, _ => by simp [toPs, PyData.eqvAll]
  | x :: xs, y :: ys, h, g => by
    simp only [pls, Bool.and_eq_true] at h g
    have h1 := eqv_pl (x := x) (y := y) h.1 g.1
    have h2 := eqvs_pl (xs := xs) (ys := ys) h.2 g.2
    simp only [toPs, PyData.eqvAll, Bool.and_eq_true, List.cons.injEq]
    rw [h1, h2]
end
mutual
theorem canLay_pl : ∀ {x : D}, pl x = true → (toP x).canLay0 = true
  | .int i, _ => by simp [toP, PyData.canLay0]
  | .str _, h => by simpa [toP, PyData.canLay0, pl] using h
  | .tup xs, h => by
    have := canLays_pl (xs := xs) (by simpa [pl] using h)
    simp only [toP, PyData.canLay0]
    exact this
  | .lst xs, h => by
    have := canLays_pl (xs := xs) (by simpa [pl] using h)
    simp only [toP, PyData.canLay0]
    exact this
  | .non, h | .bl _, h | .txt, h | .book _ _, h | .ans _, h | .jar, h | .scr _, h | .tab _, h | .tln _, h | .tbs _, h | .adr _, h => by simp [pl] at h
theorem canLays_pl : ∀ {xs : List D}, pls xs = true → PyData.canLayAll0 (toPs xs) = true
  | [], _ => by simp [toPs, PyData.canLayAll0]
  | x :: xs, h => by
    simp only [pls, Bool.and_eq_true] at h
    simp only [toPs, PyData.canLayAll0, Bool.and_eq_true]
    exact ⟨canLay_pl h.1, canLays_pl h.2⟩
end
mutual
def dpt : D → Nat
  | .tup xs => 1 + dpts xs
  | .lst xs => 1 + dpts xs
  | _ => 0
def dpts : List D → Nat
  | [] => 0
  | x :: xs => max (dpt x) (dpts xs)
end
mutual
theorem depth_pl : ∀ {x : D}, pl x = true → (toP x).depth = dpt x
  | .int i, _ => by simp [toP, PyData.depth, dpt]
  | .str _, _ => by simp [toP, PyData.depth, dpt]
  | .tup xs, h => by
    have := depths_pl (xs := xs) (by simpa [pl] using h)
    simp only [toP, PyData.depth, dpt, this, Nat.add_comm]
  | .lst xs, h => by
    have := depths_pl (xs := xs) (by simpa [pl] using h)
    simp only [toP, PyData.depth, dpt, this, Nat.add_comm]
  | .non, h | .bl _, h | .txt, h | .book _ _, h | .ans _, h | .jar, h | .scr _, h | .tab _, h | .tln _, h | .tbs _, h | .adr _, h => by simp [pl] at h
theorem depths_pl : ∀ {xs : List D}, pls xs = true → PyData.depthAll (toPs xs) = dpts xs
  | [], _ => by simp [toPs, PyData.depthAll, dpts]
  | x :: xs, h => by
    simp only [pls, Bool.and_eq_true] at h
    simp only [toPs, PyData.depthAll, dpts, depth_pl h.1, depths_pl h.2]
end
theorem shaped_pl {x : D} (h : pl x = true) (hd : dpt x ≤ 60) : SeqAt.shaped (toP x) = true := by
  show ((toP x).canLay0 && decide ((toP x).depth ≤ 64)) = true
  rw [Bool.and_eq_true]
  exact ⟨canLay_pl h, decide_eq_true (by rw [depth_pl h]; omega)⟩
section
variable {K : PySem.W.Frag} {J : Jx} {B H : Hp}
mutual
theorem dp_pl (s : Same B H) : ∀ {x : D} {v : V}, pl x = true → Den K J x B v → Dp K H v (toP x)
  | .int i, _, _, h => by rw [den_int.mp h]; exact .int i
  | .str x, _, _, h => by rw [den_str.mp h]; exact .str x
  | .tup xs, _, g, h => by
    obtain ⟨a, vs, rfl, h1, h2⟩ := den_tup.mp h
    have := dps_pl s (xs := xs) (vs := vs) (by simpa [pl] using g) h2
    simp only [toP]
    exact .tup (SqT.of (s _ _ h1)) this
  | .lst xs, _, g, h => by
    obtain ⟨a, vs, rfl, h1, h2⟩ := den_lst.mp h
    have := dps_pl s (xs := xs) (vs := vs) (by simpa [pl] using g) h2
    simp only [toP]
    exact .lst (SqL.of (s _ _ h1)) this
  | .non, _, h, _ | .bl _, _, h, _ | .txt, _, h, _ | .book _ _, _, h, _ | .ans _, _, h, _ | .jar, _, h, _ | .scr _, _, h, _ | .tab _, _, h, _ | .tln _, _, h, _ | .tbs _, _, h, _ | .adr _, _, h, _ => by simp [pl] at h
theorem dps_pl (s : Same B H) : ∀ {xs : List D} {vs : List V}, pls xs = true → Dens K J xs B vs → DpAll K H vs (toPs xs)
  | [], _, _, h => by rw [dens_nil.mp h]; exact .nil
  | x :: xs, _, g, h => by
    obtain ⟨v, r, rfl, h1, h2⟩ := dens_cons.mp h
    simp only [pls, Bool.and_eq_true] at g
    simp only [toPs]
    exact .cons (dp_pl s g.1 h1) (dps_pl s g.2 h2)
end
end
theorem bool_of_iff {b : Bool} {p : Prop} [Decidable p] (h : b = true ↔ p) : b = decide p := by
  cases b
  · exact (decide_eq_false fun z => Bool.false_ne_true (h.mpr z)).symm
  · exact (decide_eq_true (h.mp rfl)).symm
section
variable {X : Cx} {J : Jx} {Γ : Gam} {e a b c : Expr} {es : List Expr} {pos : Pos} {P : D → Prop} {x y : D}
/-- what is due: r says whether x and y are one -/
theorem t_eqD {k : Nat} {r : Bool} (hr : Room k X.A) (ha : Ev X J Γ a (· = x)) (hb : Ev X J Γ b (· = y)) (px : pl x = true) (py : pl y = true) (dx : dpt x ≤ 60) (dy : dpt y ≤ 60) (h : r = true ↔ x = y) : EvT X J Γ (.Compare a [.Eq] [b] pos) (· = r) := fun σ B H w f Q q =>
  ofT (pt_cmpR (op_eqD (room_64 hr)) wpE.pe wpE.pe (nomark _)) (two (ta := wpE X a) (tb := wpE X b) ha hb w f fun x' y' v u B' H' ex ey s hx hy => by
    subst ex ey
    refine ⟨_, _, dp_pl s.w.s px hx, dp_pl s.w.s py hy, shaped_pl px dx, shaped_pl py dy, _, rfl, ?_⟩
    have : PyData.eqv (toP x') (toP y') = r := by
      rw [Bool.eq_iff_iff, eqv_pl px py, h]
    rw [this]
    exact q _ B' H' rfl s)
theorem t_neD {k : Nat} {r : Bool} (hr : Room k X.A) (ha : Ev X J Γ a (· = x)) (hb : Ev X J Γ b (· = y)) (px : pl x = true) (py : pl y = true) (dx : dpt x ≤ 60) (dy : dpt y ≤ 60) (h : r = true ↔ x = y) : EvT X J Γ (.Compare a [.NotEq] [b] pos) (· = !r) := fun σ B H w f Q q =>
  ofT (pt_cmpR (op_neD (room_64 hr)) wpE.pe wpE.pe (nomark _)) (two (ta := wpE X a) (tb := wpE X b) ha hb w f fun x' y' v u B' H' ex ey s hx hy => by
    subst ex ey
    refine ⟨_, _, dp_pl s.w.s px hx, dp_pl s.w.s py hy, shaped_pl px dx, shaped_pl py dy, _, rfl, ?_⟩
    have : PyData.eqv (toP x') (toP y') = r := by
      rw [Bool.eq_iff_iff, eqv_pl px py, h]
    rw [this]
    exact q _ B' H' rfl s)
theorem any_eqv {x : D} {ds : List D} (px : pl x = true) (py : pls ds = true) : ((toPs ds).any fun z => PyData.eqv z (toP x)) = true ↔ x ∈ ds := by
  induction ds with
  | nil => simp [toPs]
  | cons z zs ih =>
    simp only [pls, Bool.and_eq_true] at py
    simp only [toPs, List.any_cons, Bool.or_eq_true, List.mem_cons]
    rw [eqv_pl py.1 px, ih py.2]
    exact ⟨fun h => h.elim (fun h => .inl h.symm) .inr, fun h => h.elim (fun h => .inl h.symm) .inr⟩
theorem t_notInD {k : Nat} {r : Bool} {ds : List D} (hr : Room k X.A) (ha : Ev X J Γ a (· = x)) (hb : Ev X J Γ b (· = .lst ds)) (px : pl x = true) (py : pls ds = true) (dx : dpt x ≤ 60) (dy : dpts ds ≤ 50) (h : r = true ↔ x ∈ ds) (hm : behindInMarks .NotIn b = false := by rfl) : EvT X J Γ (.Compare a [.NotIn] [b] pos) (· = !r) := fun σ B H w f Q q =>
  ofT (pt_cmpR (op_notInD (room_65 hr)) wpE.pe wpE.pe hm) (two (ta := wpE X a) (tb := wpE X b) ha hb w f fun x' y' v u B' H' ex ey s hx hy => by
    subst ex ey
    have pl' : pl (.lst ds) = true := by simp only [pl]; exact py
    have z := dp_pl s.w.s pl' hy
    simp only [toP] at z
    have zs := shaped_pl pl' (by simp only [dpt]; omega)
    simp only [toP] at zs
    refine ⟨_, _, dp_pl s.w.s px hx, z, shaped_pl px dx, zs, _, rfl, ?_⟩
    have : ((toPs ds).any fun z => PyData.eqv z (toP x')) = r := by
      rw [Bool.eq_iff_iff, any_eqv px py, h]
    rw [this]
    exact q _ B' H' rfl s)
end
end Z
end
section
set_option Elab.async false
set_option linter.all false
set_option maxRecDepth 100000
set_option maxHeartbeats 2000000
namespace Z
open PySem PySem.Spec PyProof.Rows L2 RZ PySem.W
/-! ### enumerate of a tuple -/
theorem meets_enum1 {v : Value} {o : Obj} {H : Heap → Prop} (B : Begins v o H) :
    Meets (Builtin.«enumerate.__new__» ⟨[.type "enumerate", v], []⟩) (fun _ R s => H s.heap ∧
      R (.ok (.ret (.ref (s.heap.push o).objs.size))) { s with heap := (s.heap.push o).push { cls := .type "enumerate", data := .fields #[.none, .bool false, .ref s.heap.objs.size, rawInt 0, .none, .none] } }) :=
  .of_wp fun prog w A R s h => by
    obtain ⟨hp, g, d, tk, os⟩ := s; obtain ⟨h1, h⟩ := h
    have hsub := sub_enumerate
    have q1 : ∀ {A' : Around} {E : Value → Shared → Prop} {Q : Value → Shared → Prop}, Q (.ref hp.objs.size) ⟨hp.push o, g, d, tk, os⟩ → wpAny (model prog w) A' (pyIter v) Q E ⟨hp, g, d, tk, os⟩ :=
      fun q => B.iter prog w _ _ ⟨hp, g, d, tk, os⟩ _ h1 q
    wp_walk using q1
    refine wpAny_stack_any fun st => wpAny_pure ?_
    split
    · rename_i c _ _ _ _ _
      cases (c == Value.type "enumerate")
      · wp_walk using q1
        exact ⟨_, rfl, h⟩
      · wp_walk using q1
        exact ⟨_, rfl, h⟩
    · wp_walk using q1
      exact ⟨_, rfl, h⟩
theorem enum_begins1 {prog : Program} {w : World} {A : Around} {E : Value → Shared → Prop} {s : Shared} {v : Value} {o : Obj} {H : Heap → Prop} {Q : Value → Shared → Prop} (B : Begins v o H) (h1 : H s.heap)
    (h : ∀ h', IsEnum h' (s.heap.objs.size + 1) s.heap.objs.size 0 .none → h'.get? s.heap.objs.size = some o → h'.objs.size = s.heap.objs.size + 2 →
      (∀ b o, s.heap.get? b = some o → h'.get? b = some o) → Q (.ref (s.heap.objs.size + 1)) { s with heap := h' }) :
    wpAny (model prog w) A (call (.type "enumerate") [v]) Q E s := by
  refine callType_new F.called_enumerate (by decide) (F.typeCall_enumerate_1 _) (F.newCall_enumerate_1 _) (fun obj => F.args_object_init_2 obj _) F.entry_enumerate_new
    (meets_enum1 B) ⟨h1, ?_⟩
  have hz : (s.heap.push o).objs.size = s.heap.objs.size + 1 := Heap.size_push ..
  show _ ∧ _
  rw [hz]
  have he : IsEnum ((s.heap.push o).push { cls := .type "enumerate", data := .fields #[.none, .bool false, .ref s.heap.objs.size, rawInt 0, .none, .none] }) (s.heap.objs.size + 1) s.heap.objs.size 0 .none := by
    have := Heap.get?_push_size (s.heap.push o) (o := { cls := .type "enumerate", data := .fields #[.none, .bool false, .ref s.heap.objs.size, rawInt 0, .none, .none] }) rfl
    rw [hz] at this; exact this
  refine ⟨⟨_, he, rfl⟩, h _ he (Heap.get?_push_of_some _ (Heap.get?_push_size _ B.free)) (by rw [Heap.size_push, hz]) fun b o x => Heap.get?_push_of_some _ (Heap.get?_push_of_some _ x)⟩
/-- the tuple at a, each item in a new pair -/
def IteT (K : PySem.W.Frag) (a : Addr) : It :=
  ⟨fun i H => ∃ (xs : List V) (x : V), SqT K H a xs ∧ xs[i]? = some x, fun i H v H' => ∃ T x, v = .ref T ∧ H T = none ∧ H' = upd H T (.tup [.int (i : Nat), x]) ∧ ∀ xs, SqT K H a xs → xs[i]? = some x, fun i H => ∃ xs : List V, SqT K H a xs ∧ xs.length = i⟩
theorem tup_apart {h : Heap} {a b : Addr} {vs : List Value} {o : Obj} (ht : IsTup h a vs.toArray) (hb : h.get? b = some o) (hc : o.cls ≠ .type "tuple") : a ≠ b := fun e => by
  obtain ⟨o', h1, h2, _⟩ := ht
  subst e
  rw [hb] at h1
  cases h1
  exact hc h2
theorem turn_enumT {P : Program} {w : World} {K : PySem.W.Frag} {elts : List Expr} {kk : Nat} {tpos : Pos} (a e it : Addr) :
    Turn P w K (.Tuple elts kk tpos) (IteT K a) [e, it] e (fun i h => (∃ old, IsEnum h e it ((i : Nat) : Int) old) ∧ h.IsTupleIter it a i ∧ e ≠ it) where
  mem := by simp
  obj := fun i h st b hb => by
    obtain ⟨⟨old, he⟩, ⟨o, ho, hc, hd⟩, _⟩ := st
    have e' : b = e ∨ b = it := by simpa using hb
    rcases e' with z | z
    · rw [z]; exact ⟨_, he, fun v q => nomatch q⟩
    · rw [z]; exact ⟨o, ho, fun v q => by rw [hd] at q; cases q⟩
  keep := fun i h h' st k => let ⟨⟨old, he⟩, hi, hne⟩ := st; ⟨⟨old, k e (by simp) _ he⟩, hi.at fun o q => k it (by simp) o q, hne⟩
  item := by
    intro X hP hw hK hc i pins s σ H E I hf st hg
    subst hP hw hK
    obtain ⟨⟨old, he⟩, hit, hne⟩ := st
    obtain ⟨xs, x, hq, hx⟩ := hg
    obtain ⟨its, rv, p, hz⟩ := I.tuple hq
    obtain ⟨u, hu, ru⟩ := rv.get hx
    have hel : e < s.heap.objs.size := Heap.lt_size he
    have hil : it < s.heap.objs.size := by obtain ⟨_, q, _⟩ := hit; exact Heap.lt_size q
    have nai : a ≠ it := by
      obtain ⟨o, q1, q2, _⟩ := hit
      exact tup_apart p q1 (by rw [q2]; decide)
    have nae : a ≠ e := tup_apart p he (fun z => by have z : Value.type "enumerate" = Value.type "tuple" := z; injection z with z; exact absurd z (by decide))
    have hlt : i < its.toArray.size := by
      have := (List.getElem?_eq_some_iff.mp hu).1
      simpa using this
    refine wpAny_pyNext_enum_itemC (Draws.tuple (A := X.A.in1) (I.ok.hd hc) it a nai its.toArray) he ⟨hit, show s.heap.IsTuple a its.toArray from p⟩ hlt hne (by simp [hne, Ne.symm nae]) fun x2 h' tk hx2 ho hst hT hsz hk => ?_
    have hxu : x2 = u := by
      have h1 : its[i]? = some u := hu
      have h2 : its.toArray[i]? = some x2 := hx2
      simp only [List.getElem?_toArray] at h2
      rw [h1] at h2
      exact (Option.some.inj h2).symm
    subst hxu
    have hit' := hst.1
    refine ⟨_, rfl, wpAny_letOwnedTupleGo_enum (s := { s with heap := h', toks := tk + 1 }) ho fun h'' he' sb => ?_⟩
    have hT2 : h''.get? s.heap.objs.size = some { cls := .type "tuple", data := .seq #[.int i tk, x2] } := (sb.2 _ (Nat.ne_of_gt hel)).trans hT
    have new : ObjOk X.prog X.w (upd H s.heap.objs.size (.tup [.int (i : Nat), x])) h'' s.heap.objs.size (.tup [.int (i : Nat), x]) :=
      ⟨by show 2 ≤ sizeLine; decide, [.int i tk, x2], .cons ⟨_, rfl⟩ (.cons ru .nil), ⟨_, hT2, rfl, _, rfl⟩⟩
    have I1 : Inv X pins σ (upd H s.heap.objs.size (.tup [.int (i : Nat), x])) { s with heap := h'', toks := tk + 1 } :=
      I.turnedNew (ch := [e, it]) (fun b ob hb q => (sb.2 b (fun z => hb (by simp [z]))).trans (hk b ob (fun z => hb (by simp [z])) (fun z => hb (by simp [z])) q)) hf (Nat.le_refl _) new
    refine ⟨.ref s.heap.objs.size, _, I1, rfl, ⟨_, x, rfl, I.hok.fresh (Nat.le_refl _), rfl, fun ys hy => by rw [I.tuple_inj hy hq]; exact hx⟩, ⟨⟨x2, ?_⟩, hit'.at fun o q => (sb.2 it (Ne.symm hne)).trans q, hne⟩, fun b hb => ?_⟩
    · have e1 : ((i + 1 : Nat) : Int) = (i : Int) + 1 := by omega
      rw [e1]; exact he'
    · have hb' : b < s.heap.objs.size := by
        have e' : b = e ∨ b = it := by simpa using hb
        rcases e' with z | z
        · rw [z]; exact hel
        · rw [z]; exact hil
      rw [upd_ne (Nat.ne_of_lt hb')]
      exact (hf b hb).1
  done := by
    intro X hP hw hK hc i pins s σ H E I hf st hg
    subst hP hw hK
    obtain ⟨⟨old, he⟩, hit, hne⟩ := st
    obtain ⟨xs, hq, hx⟩ := hg
    obtain ⟨its, rv, p, hz⟩ := I.tuple hq
    obtain ⟨f0, f1, f2, f3, f4, f5⟩ := hf it (by simp)
    have nai : a ≠ it := by
      obtain ⟨o, q1, q2, _⟩ := hit
      exact tup_apart p q1 (by rw [q2]; decide)
    have hl : i = its.toArray.size := by rw [List.size_toArray, ← hx, rv.length]
    refine wpAny_pyNext_enum_endD (Draws.tuple (A := X.A.in1) (I.ok.hd hc) it a nai its.toArray) he ⟨by rw [← hl]; exact hit, show s.heap.IsTuple a its.toArray from p⟩ fun h' eb => ⟨rfl, I.turned (t' := s.toks) (fun b o hb q => eb b o hb q) f0 f1 f3 f4 f5⟩
  self := fun A i s Q E st h => let ⟨⟨_, he⟩, _⟩ := st; wpAny_pyIter_enum he h
def iEnumT (K : PySem.W.Frag) (ta : TA) : TI := fun σ H R => ta σ H fun vs H1 => ∃ a xs, vs = [.ref a] ∧ SqT K H1 a xs ∧ R (IteT K a) H1
theorem pi_enumT {X : Cx} {e : Expr} {ta : TA} {p pos tpos : Pos} {elts : List Expr} {kk : Nat} (hg : Gl X "enumerate") (hm : X.mg "enumerate" = none) (ha : PA X [e] ta) (hs : starEach [e] X.env = [(false, eval e X.env)] := by rfl) :
    PI X (.Tuple elts kk tpos) (.Call (.Name "enumerate" p) [e] [] pos) (iEnumT X.K ta) := by
  refine ⟨fun pins s σ H R I h => ?_⟩
  refine Call_ (ld_blt I hg hm boot_enumerate (PyProof.Rows.callWith_type1 (thn (ha.run pos pins s σ H _ I h) fun us s1 ⟨vs, H1, I1, r1, q1⟩ => ?_) hs rfl))
  obtain ⟨a, xs, ex, hq, q⟩ := q1
  subst ex
  cases r1 with
  | cons r rr =>
    cases rr
    cases r
    obtain ⟨its, rv, p', hz⟩ := I1.tuple hq
    refine enum_begins1 (begins_tuple a its.toArray) (show s1.heap.IsTuple a its.toArray from p') fun h' he hit hsz hk => wpAny_pyIter_enum he ?_
    have I2 : Inv X pins σ H1 { s1 with heap := h' } := I1.kept (t' := s1.toks) hk
    refine ⟨s1.heap.objs.size + 1, [s1.heap.objs.size + 1, s1.heap.objs.size], _, _, H1, rfl, I2, turn_enumT a (s1.heap.objs.size + 1) s1.heap.objs.size, ⟨⟨.none, he⟩, ⟨_, hit, rfl, rfl⟩, Nat.succ_ne_self _⟩, fun b hb => ?_, q⟩
    have e' : b = s1.heap.objs.size + 1 ∨ b = s1.heap.objs.size := by simpa using hb
    have hle : s1.heap.objs.size ≤ b := by
      rcases e' with z | z
      · rw [z]; exact Nat.le_add_right _ _
      · rw [z]; exact Nat.le_refl _
    exact I1.fpOk hle (I1.hok.fresh hle)
section
variable {K : PySem.W.Frag} {J : Jx} {B H : Hp}
theorem it_enumT {a : Addr} {vs : List V} {ds : List D} (h : B a = some (.tup vs)) (hd : Dens K J ds B vs) : ItOk K J (IteT K a) B (ds.zipIdx.map fun q => D.tup [.int (q.2 : Nat), q.1]) := ⟨by
  rw [List.length_map, List.length_zipIdx, ← hd.length]
  refine ⟨fun i H hi ⟨B1, w, e⟩ => ⟨vs, vs[i], SqT.of (w.s _ _ (e _ _ h)), by simp [hi]⟩, fun H ⟨B1, w, e⟩ => ⟨vs, SqT.of (w.s _ _ (e _ _ h)), rfl⟩, fun i H x H' hi e y B1 w s => ?_⟩
  obtain ⟨T, x2, e1, e2, e3, e5⟩ := y
  obtain ⟨d, h1, h2⟩ := hd.get' (e5 vs (SqT.of (w.s _ _ (s _ _ h))))
  subst e1 e3
  obtain ⟨s1, s2⟩ := pair_new (K := K) (d := .int (i : Nat)) w e2 (den_int.mpr rfl) (h2.mono s)
  exact ⟨_, _, by rw [List.getElem?_map, List.getElem?_zipIdx, h1]; simp, s1, s2⟩⟩
end
section
variable {X : Cx} {J : Jx} {Γ : Gam} {e a b c : Expr} {es : List Expr} {pos : Pos} {P : D → Prop} {d : D}
theorem i_enumT {ds : List D} {elts : List Expr} {kk : Nat} {p tpos : Pos} (h : Ev X J Γ e (· = .tup ds)) (hm : X.mg "enumerate" = none) (hg : Gl X "enumerate" := by rfl) (hs : starEach [e] X.env = [(false, eval e X.env)] := by rfl) :
    EvI X J Γ (.Tuple elts kk tpos) (.Call (.Name "enumerate" p) [e] [] pos) (· = ds.zipIdx.map fun q => D.tup [.int (q.2 : Nat), q.1]) := fun σ B H w f R q =>
  ofI (pi_enumT hg hm (pa_cons wpE.pe pa_nil hs) hs) (h σ B H w f _ fun d v B1 H1 p s1 hd => by
    subst p
    obtain ⟨x, vs, rfl, h1, h2⟩ := den_tup.mp hd
    exact ⟨x, vs, rfl, SqT.of (s1.w.s _ _ h1), q _ _ B1 H1 rfl s1 (it_enumT h1 h2)⟩)
/-! ### min, max of a tuple of ints -/
theorem fold_ints {le : Int → Int → Prop} {lt : Int → Int → Bool} (refl : ∀ a, le a a) (h1 : ∀ a b, lt b a = true → le b a) (h2 : ∀ a b, lt b a = false → le a b) (tr : ∀ a b c, le a b → le b c → le a c) : ∀ (xs : List Int) (x : Int), (xs.foldl (fun a y => if lt y a = true then y else a) x ∈ x :: xs) ∧ ∀ y ∈ x :: xs, le (xs.foldl (fun a y => if lt y a = true then y else a) x) y
  | [], x => ⟨List.mem_cons_self, fun y hy => by
      have : y = x := by simpa using hy
      subst this
      exact refl _⟩
  | z :: zs, x => by
    obtain ⟨g1, g2⟩ := fold_ints refl h1 h2 tr zs (if lt z x = true then z else x)
    rw [List.foldl_cons]
    generalize zs.foldl (fun a y => if lt y a = true then y else a) (if lt z x = true then z else x) = m at *
    cases hz : lt z x with
    | true =>
      rw [hz] at g1 g2
      simp only [if_true] at g1 g2
      refine ⟨List.mem_cons_of_mem _ g1, fun y hy => ?_⟩
      rcases List.mem_cons.mp hy with h | h
      · subst h
        exact tr _ _ _ (g2 z List.mem_cons_self) (h1 _ _ hz)
      · exact g2 y h
    | false =>
      rw [hz] at g1 g2
      simp only [Bool.false_eq_true, if_false] at g1 g2
      refine ⟨?_, fun y hy => ?_⟩
      · rcases List.mem_cons.mp g1 with h | h
        · exact h ▸ List.mem_cons_self
        · exact List.mem_cons_of_mem _ (List.mem_cons_of_mem _ h)
      · rcases List.mem_cons.mp hy with h | h
        · subst h
          exact g2 y List.mem_cons_self
        · rcases List.mem_cons.mp h with h | h
          · subst h
            exact tr _ _ _ (g2 x List.mem_cons_self) (h2 _ _ hz)
          · exact g2 y (List.mem_cons_of_mem _ h)
def rMinT (K : PySem.W.Frag) : List V → Hp → VK → Prop := fun vs H Q => ∃ (a : Addr) (ns : List Int), vs = [V.ref a] ∧ SqT K H a (ns.map V.int) ∧ 0 < ns.length ∧ ∀ m, m ∈ ns → (∀ y, y ∈ ns → m ≤ y) → Q (.int m) H
def rMaxT (K : PySem.W.Frag) : List V → Hp → VK → Prop := fun vs H Q => ∃ (a : Addr) (ns : List Int), vs = [V.ref a] ∧ SqT K H a (ns.map V.int) ∧ 0 < ns.length ∧ ∀ m, m ∈ ns → (∀ y, y ∈ ns → y ≤ m) → Q (.int m) H
theorem cr_minT {k : Nat} (hr : Room k X.A) (hc : X.calm = true) : CallR X (.builtin "min") (rMinT X.K) := by
  intro pins s σ H vs us Q I r h
  obtain ⟨a, ns, rfl, hs, hne, q⟩ := h
  obtain ⟨its, rv, hl, _⟩ := I.tuple hs
  rw [Vals.ref1 r]
  cases ns with
  | nil => cases hne
  | cons x xs =>
    have hu : X.A.units + 1 + Datum.depth Int < cLine := by
      have := hr.un
      show X.A.units + 1 + 0 < cLine
      omega
    refine min_tuple_datum (I.ok.hd hc) (show s.heap.IsTuple a its.toArray from hl) (HoldAll.of_ints (intsAre_of rv)) hu fun i v h' tk _ hv hk => ?_
    obtain ⟨as, hv⟩ := hv
    have hm := fold_ints (le := fun a b => a ≤ b) (lt := fun y a => decide (y < a)) (fun _ => Int.le_refl _) (fun a b h => by simp at h; omega) (fun a b h => by simp at h; omega) (fun _ _ _ => Int.le_trans) xs x
    have e : minOf x xs = xs.foldl (fun a y => if decide (y < a) = true then y else a) x := rfl
    rw [e] at hv
    generalize xs.foldl (fun a y => if decide (y < a) = true then y else a) x = m at *
    cases hv
    exact ⟨.int m, H, I.kept hk, ⟨_, rfl⟩, q m hm.1 hm.2⟩
theorem cr_maxT {k : Nat} (hr : Room k X.A) (hc : X.calm = true) : CallR X (.builtin "max") (rMaxT X.K) := by
  intro pins s σ H vs us Q I r h
  obtain ⟨a, ns, rfl, hs, hne, q⟩ := h
  obtain ⟨its, rv, hl, _⟩ := I.tuple hs
  rw [Vals.ref1 r]
  cases ns with
  | nil => cases hne
  | cons x xs =>
    have hu : X.A.units + 1 + Datum.depth Int < cLine := by
      have := hr.un
      show X.A.units + 1 + 0 < cLine
      omega
    refine max_tuple_datum (I.ok.hd hc) (show s.heap.IsTuple a its.toArray from hl) (HoldAll.of_ints (intsAre_of rv)) hu fun i v h' tk _ hv hk => ?_
    obtain ⟨as, hv⟩ := hv
    have hm := fold_ints (le := fun a b => b ≤ a) (lt := fun y a => decide (a < y)) (fun _ => Int.le_refl _) (fun a b h => by simp at h; omega) (fun a b h => by simp at h; omega) (fun _ _ _ h1 h2 => Int.le_trans h2 h1) xs x
    have e : maxOf x xs = xs.foldl (fun a y => if decide (a < y) = true then y else a) x := rfl
    rw [e] at hv
    generalize xs.foldl (fun a y => if decide (a < y) = true then y else a) x = m at *
    cases hv
    exact ⟨.int m, H, I.kept hk, ⟨_, rfl⟩, q m hm.1 hm.2⟩
theorem c_minT {ns : List Int} (hl : 0 < ns.length) (p : ∀ m, m ∈ ns → (∀ y, y ∈ ns → m ≤ y) → P (.int m)) : RCd X J (rMinT X.K) [.tup (ns.map D.int)] P := fun B H vs w h Q q => by
  obtain ⟨v, rfl, h1⟩ := dens1 h
  obtain ⟨a, us, rfl, h2, h3⟩ := den_tup.mp h1
  rw [h3.ints] at h2
  exact ⟨a, ns, rfl, SqT.of (w.s _ _ h2), hl, fun m hm hle => q _ _ B H (p m hm hle) (.refl w) (den_int.mpr rfl)⟩
theorem c_maxT {ns : List Int} (hl : 0 < ns.length) (p : ∀ m, m ∈ ns → (∀ y, y ∈ ns → y ≤ m) → P (.int m)) : RCd X J (rMaxT X.K) [.tup (ns.map D.int)] P := fun B H vs w h Q q => by
  obtain ⟨v, rfl, h1⟩ := dens1 h
  obtain ⟨a, us, rfl, h2, h3⟩ := den_tup.mp h1
  rw [h3.ints] at h2
  exact ⟨a, ns, rfl, SqT.of (w.s _ _ h2), hl, fun m hm hle => q _ _ B H (p m hm hle) (.refl w) (den_int.mpr rfl)⟩
end
end Z
end
section
set_option Elab.async false
set_option linter.all false
set_option maxRecDepth 100000
set_option maxHeartbeats 2000000
namespace Z
open PySem PySem.Spec PyProof.Rows L2 RZ
section
variable {X : Cx} {J : Jx} {B0 H0 : Hp} {Γ Γ' : Gam} {O O' : Own} {N M : Sp3} {R : Rp} {st : Stmt} {rest body : List Stmt} {e c a b idx : Expr} {es : List Expr} {pos : Pos} {P : D → Prop} {d : D}
/-! ### texts -/
def StrN (n : Nat) (d : D) : Prop := ∃ x : Str, d = .str x ∧ x.length ≤ n
theorem StrN.mono {m n : Nat} (h : StrN m d) (k : m ≤ n) : StrN n d := let ⟨x, e, l⟩ := h; ⟨x, e, Nat.le_trans l k⟩
theorem len_app (x y : Str) : (x ++ y).length = x.length + y.length := by
  rw [TL.len_tl, TL.tl_append, List.length_append, ← TL.len_tl, ← TL.len_tl]
theorem x_addS {m n : Nat} (ha : Ev X J Γ a (StrN m)) (hb : Ev X J Γ b (StrN n)) (hl : m + n ≤ 100000 := by decide) : Ev X J Γ (.BinOp a .Add b pos) (StrN (m + n)) := fun σ B H w f Q q =>
  ofE (pe_op op_add_str wpE.pe wpE.pe) (two (ta := wpE X a) (tb := wpE X b) ha hb w f fun x y v u B' H' ⟨i, ex, li⟩ ⟨j, ey, lj⟩ s dx dy => by
    subst ex ey
    exact ⟨i, j, den_str.mp dx, den_str.mp dy, small (by omega), q _ _ B' H' ⟨i ++ j, rfl, by rw [len_app]; omega⟩ s (den_str.mpr rfl)⟩)
theorem Dens.strs {K : PySem.W.Frag} {B : Hp} : ∀ {ns : List Str} {vs : List V}, Dens K J (ns.map D.str) B vs → vs = ns.map V.str
  | [], _, h => dens_nil.mp h
  | n :: ns, _, h => by
    obtain ⟨v, r, e1, h1, h2⟩ := dens_cons.mp h
    rw [e1, den_str.mp h1, Dens.strs h2]
    rfl
theorem sum_le_mul {l : List Nat} {n : Nat} (h : ∀ x ∈ l, x ≤ n) : l.sum ≤ l.length * n := by
  induction l with
  | nil => simp
  | cons x xs ih =>
    have h1 := h x List.mem_cons_self
    have h2 := ih fun y hy => h y (List.mem_cons_of_mem _ hy)
    rw [List.sum_cons, List.length_cons, Nat.add_mul]
    omega
def Strs (k n : Nat) (d : D) : Prop := ∃ ss : List Str, d = .lst (ss.map D.str) ∧ ss.length ≤ k ∧ ∀ s ∈ ss, s.length ≤ n
theorem sum_commas (x : Str) : ∀ ss : List Str, (PySem.Str.join x ss).length ≤ (ss.map (·.length)).sum + ss.length * x.length := by
  intro ss
  rw [TL.len_tl, TL.tl_join]
  induction ss with
  | nil => simp [TL.joinL]
  | cons s r ih =>
    cases r with
    | nil => simp [TL.joinL, TL.len_tl]
    | cons t r =>
      simp only [List.map_cons, TL.joinL, List.length_append, List.sum_cons, List.length_cons, Nat.add_mul] at ih ⊢
      rw [← TL.len_tl, ← TL.len_tl]
      omega
theorem x_join {sep : Str} {j2 p2} {k n : Nat} {apos : Pos} (hb : Ev X J Γ b (Strs k n)) (hsep : sep.length ≤ 1) (hl : k * n + k ≤ 1000000 := by decide) (hs : starEach [b] X.env = [(false, eval b X.env)] := by rfl) (hbase : attributeBase (.Constant (.str sep) j2 p2) "join" X.env (eval (.Constant (.str sep) j2 p2) X.env) = eval (.Constant (.str sep) j2 p2) X.env := by rfl) (hline : (apos.endLine == pos.line) = true := by rfl) :
    Ev X J Γ (.Call (.Attribute (.Constant (.str sep) j2 p2) "join" apos) [b] [] pos) (StrN (k * n + k)) := fun σ B H w f Q q =>
  ofE (pe_join pe_str wpE.pe hs hbase hline) ⟨⟨sep, rfl⟩, hb σ B H w f _ fun d v B1 H1 ⟨ss, ed, lk, ln⟩ s1 hd => by
    subst ed
    obtain ⟨p, vs, rfl, h1, h2⟩ := den_lst.mp hd
    rw [h2.strs] at h1
    have hsum : (ss.map (·.length)).sum ≤ k * n := by
      refine Nat.le_trans (sum_le_mul (n := n) fun x hx => ?_) ?_
      · obtain ⟨s, hs, rfl⟩ := List.mem_map.mp hx
        exact ln s hs
      · rw [List.length_map]
        exact Nat.mul_le_mul_right n lk
    have hmul : ss.length * sep.length ≤ k := Nat.le_trans (Nat.mul_le_mul lk hsep) (by omega)
    refine ⟨sep, p, ss, rfl, rfl, .inl (SqL.of (s1.w.s _ _ h1)), by omega, q _ _ B1 H1 ⟨_, rfl, ?_⟩ s1 (den_str.mpr rfl)⟩
    rw [TL.join_eq]
    have := sum_commas sep ss
    omega⟩
theorem len_strI {i : Int} {k : Nat} (hk : 0 < k) (h : i.natAbs < 10 ^ k) : (Str.ofString (toString i)).length ≤ k + 1 := by
  cases i with
  | ofNat n =>
    have : (Str.ofString (toString ((n : Nat) : Int))).length ≤ k := by
      rw [TL.len_tl, TL.tl_num]
      exact TL.numL_len hk h
    exact Nat.le_succ_of_le this
  | negSucc n =>
    have e : toString (Int.negSucc n) = "-" ++ toString ((n + 1 : Nat) : Int) := by rfl
    have h2 : (Str.ofString (toString ((n + 1 : Nat) : Int))).length ≤ k := by
      rw [TL.len_tl, TL.tl_num]
      exact TL.numL_len hk h
    rw [TL.len_tl, TL.tl_ofString] at h2
    rw [e, TL.len_tl, TL.tl_ofString, String.toList_append, List.map_append, List.length_append]
    have h3 : (List.map Char.toNat "-".toList).length = 1 := by decide
    rw [h3]
    omega
theorem x_strI {i : Int} {p : Pos} (ha : Ev X J Γ e (· = .int i)) (h : i.natAbs < 10 ^ 20) (hm : X.mg "str" = none) (hg : Gl X "str" := by rfl) (he : starEach [e] X.env = (false, eval e X.env) :: starEach [] X.env := by rfl) (hpl : (backTo pos (starEach [] X.env)).any (·.1) = false := by rfl) : Ev X J Γ (.Call (.Name "str" p) [e] [] pos) (StrN 21) :=
  x_bty (T := "str") call_str_int hm (by decide +kernel) (a_cons ha a_nil he) (fun _ ed => by
    subst ed
    have hz : i.natAbs.log2 < 1920 := by
      by_cases h0 : i.natAbs = 0
      · rw [h0]; decide
      · exact Nat.lt_trans ((Nat.log2_lt h0).mpr (Nat.lt_of_lt_of_le h (show 10 ^ 20 ≤ 2 ^ 100 by decide))) (by decide)
    exact c_strI hz ⟨_, rfl, len_strI (by decide) h⟩) hg (by decide) (by decide) he hpl
/-! ### a, b = e, a new list -/
theorem hb_parO (i j : Nat) {x y : Str} {px py pt : Pos} {kt k2 pt2} {PL : List D → Prop} (h1 : Ev X J Γ a P) (h2 : EvO X J Γ b PL) (k : ∀ d ds, P d → PL ds → HB X rest (SX X J B0 H0 ((Γ.set i (some d)).set j none) [(j, ds)]) N R)
    (hN : X.N.Nodup) (hl : j < Γ.length) (hc : X.calm = true := by rfl) (hij : i ≠ j := by decide) (hi : X.N[i]? = some x := by rfl) (hj : X.N[j]? = some y := by rfl) (hx : X.env.scope.names.lookup x = some .local := by rfl) (hy : X.env.scope.names.lookup y = some .local := by rfl)
    (hw : swappedStores [.Tuple [.Name x px, .Name y py] kt pt] (.Tuple [a, b] k2 pt2) X.env = pure (some [x, y]) := by rfl) (hs : swapsWithSole [.Tuple [.Name x px, .Name y py] kt pt] (.Tuple [a, b] k2 pt2) pos.line X.env = pure false := by rfl)
    (hs1 : starEach [a, b] X.env = (false, eval a X.env) :: starEach [b] X.env := by rfl) (hs2 : starEach [b] X.env = (false, eval b X.env) :: starEach [] X.env := by rfl) :
    HB X (.Assign [.Tuple [.Name x px, .Name y py] kt pt] (.Tuple [a, b] k2 pt2) pos :: rest) (SX X J B0 H0 Γ O) N R := hb_cons (M := fun σ B H => ∃ d ds, P d ∧ PL ds ∧ SX X J B0 H0 ((Γ.set i (some d)).set j none) [(j, ds)] σ B H)
  (fun σ B H s E n _ => ofS (ps_par hc hN hi hj hij hx hy (pa_cons wpE.pe (pa_cons wpE.pe pa_nil hs2) hs1) hw hs) (h1 σ B H s.w s.fit _ fun d v B1 H1 p t hd => h2 σ B1 H1 t.w (s.fit.mono t.b) _ fun ds q vs B2 H2 pl t2 h0 hb hj' hv hds => by
    refine ⟨v, .ref q, rfl, n _ B2 H2 (t.trans t2).b ⟨d, ds, p, pl, ?_⟩⟩
    have s1 := (s.step t).set (i := i) (O' := []) hd (fun _ h => by cases h)
    exact s1.setO t2 h0 hb hj' hv hds (by rw [List.length_set]; exact hl) (fun _ h => by cases h)))
  (fun σ B H ⟨d, ds, p, pl, s⟩ => k d ds p pl σ B H s)
/-! ### x[i] = e, x[i] += e: x one's own -/
theorem ix_ok {ds : List D} {vs : List V} {K : PySem.W.Frag} {B : Hp} (h : Dens K J ds B vs) {k : Int} (h0 : 0 ≤ k) (h1 : k.toNat < ds.length) : ixN vs.length k = some k.toNat := by
  unfold ixN
  rw [h.length, if_pos h0, if_pos (by omega)]
theorem hb_setix (i : Nat) {ds : List D} {k : Int} {x : Str} {p1 p2 : Pos} (h : Ev X J Γ e P) (hidx : Ev X J Γ idx (· = .int k)) (h0 : 0 ≤ k) (h1 : k.toNat < ds.length) (kk : ∀ d, P d → HB X rest (SX X J B0 H0 Γ ((i, ds.set k.toNat d) :: O)) N R) (hn : ∀ q ∈ O, q.1 ≠ i := by simp) (hi : X.N[i]? = some x := by rfl)
    (hv : Vis X.env.scope x := by first | exact Or.inl rfl | exact Or.inr (Or.inl rfl) | exact Or.inr (Or.inr rfl)) (hd : (x == ("__debug__" : Str)) = false := by decide) (hcd : (x == ("__classdict__" : Str)) = false := by decide)
    (hs : swapsWithSole [.Subscript (.Name x p1) idx p2] e pos.line X.env = pure false := by rfl) (hw : swappedStores [.Subscript (.Name x p1) idx p2] e X.env = pure none := by rfl) (hone : (assignEach [.Subscript (.Name x p1) idx p2] X.env).map (·.2) = [assign (.Subscript (.Name x p1) idx p2) X.env] := by rfl)
    (ha : ∀ v, assign (.Subscript (.Name x p1) idx p2) X.env v = (do
      let ov ← holding [v] (eval (.Name x p1) X.env)
      let iv ← holding [v, ov] (eval idx X.env)
      standAt p2
      holding [v, ov, iv] (setItem ov iv v)
      release [v, ov, iv] []) := by intro _; rfl) :
    HB X (.Assign [.Subscript (.Name x p1) idx p2] e pos :: rest) (SX X J B0 H0 Γ ((i, ds) :: O)) N R := hb_cons (M := fun σ B H => ∃ d, P d ∧ SX X J B0 H0 Γ ((i, ds.set k.toNat d) :: O) σ B H)
  (fun σ B H s E n _ => ofS (ps_asg wpE.pe (pg_sub (pe_var hi hv hd hcd) wpE.pe set_list ha) hs hw hone) (h σ B H s.w s.fit _ fun d v B1 H1 p t hdv => by
    have s1 := s.step t
    obtain ⟨a, vs, o⟩ := s1.own (i, ds) List.mem_cons_self
    refine ⟨.ref a, o.at_, ?_⟩
    refine hidx σ B1 H1 s1.w s1.fit _ fun d2 v2 B2 H2 p2 t2 hd2 => ?_
    have s2 := s1.step t2
    obtain ⟨a2, vs2, o2⟩ := s2.own (i, ds) List.mem_cons_self
    have ea : a2 = a := by
      have z := o2.at_.symm.trans o.at_
      injection z with z; injection z with z; injection z
    subst ea p2
    exact ⟨a2, vs2, k, k.toNat, rfl, den_int.mp hd2, o2.lst, ix_ok o2.den h0 h1, n σ B2 _ (t.b.trans t2.b) ⟨d, p, s2.mut o2 (o2.den.set (hdv.mono t2.b) _) hn⟩⟩))
  (.ex fun d σ B H ⟨p, s⟩ => kk d p σ B H s)
theorem get_listP : PGet X (fun o i H Q => ∃ p xs k v, o = .ref p ∧ i = .int k ∧ SqL X.K H p xs ∧ 0 ≤ k ∧ xs[k.toNat]? = some v ∧ Q v H) := by
  intro pins s σ H o i ov iv Q I ro ri h
  obtain ⟨p, xs, k, v, rfl, rfl, hq, h0, he, q⟩ := h
  cases ro
  obtain ⟨t, rfl⟩ := ri
  obtain ⟨its, r, pl, hz⟩ := I.list hq
  obtain ⟨w, ew, rw'⟩ := r.get he
  have hl := (List.getElem?_eq_some_iff.mp he).1
  have hn := line63
  exact wpAny_getItem_list pl.isList h0 (by omega) (by simpa using ew) ⟨v, H, I, rw', q⟩
theorem hb_augix (i : Nat) {ns : List Int} {k : Int} {PK PE : D → Prop} {x : Str} {p1 p2 : Pos} (hidx : Ev X J Γ idx PK) (hk : ∀ d, PK d → ∃ k : Int, d = .int k ∧ 0 ≤ k ∧ k.toNat < ns.length) (h : Ev X J Γ e PE) (he : ∀ d, PE d → ∃ n : Int, d = .int n) (kk : ∀ (k n m : Int), PK (.int k) → PE (.int n) → 0 ≤ k → ns[k.toNat]? = some m → HB X rest (SX X J B0 H0 Γ ((i, (ns.set k.toNat (m + n)).map D.int) :: O)) N R) (hn : ∀ q ∈ O, q.1 ≠ i := by simp) (hi : X.N[i]? = some x := by rfl)
    (hv : Vis X.env.scope x := by first | exact Or.inl rfl | exact Or.inr (Or.inl rfl) | exact Or.inr (Or.inr rfl)) (hd : (x == ("__debug__" : Str)) = false := by decide) (hcd : (x == ("__classdict__" : Str)) = false := by decide)
    (ha : ∀ ov iv new, augStore idx ov iv new = (do holding [new, ov, iv] (setItem ov iv new); release [new, ov, iv] []; pure .next) := by intros; rfl) :
    HB X (.AugAssign (.Subscript (.Name x p1) idx p2) .Add e pos :: rest) (SX X J B0 H0 Γ ((i, ns.map D.int) :: O)) N R := hb_cons (M := fun σ B H => ∃ (k n m : Int), PK (.int k) ∧ PE (.int n) ∧ 0 ≤ k ∧ ns[k.toNat]? = some m ∧ SX X J B0 H0 Γ ((i, (ns.set k.toNat (m + n)).map D.int) :: O) σ B H)
  (fun σ B H s E nx _ => ofS (ps_augS (pe_var hi hv hd hcd) wpE.pe get_listP wpE.pe ip_add set_list ha) (by
    obtain ⟨a, vs, o⟩ := s.own (i, ns.map D.int) List.mem_cons_self
    refine ⟨.ref a, o.at_, ?_⟩
    refine hidx σ B H s.w s.fit _ fun d2 v2 B2 H2 pk t2 hd2 => ?_
    obtain ⟨k, rfl, h0, h1⟩ := hk _ pk
    have s2 := s.step t2
    obtain ⟨a2, vs2, o2⟩ := s2.own (i, ns.map D.int) List.mem_cons_self
    have ea : a2 = a := by
      have z := o2.at_.symm.trans o.at_
      injection z with z; injection z with z; injection z
    subst ea
    have hm : ns[k.toNat]? = some ns[k.toNat] := List.getElem?_eq_getElem h1
    have ev : vs2 = ns.map V.int := o2.den.ints
    refine ⟨a2, vs2, k, .int ns[k.toNat], rfl, den_int.mp hd2, SqL.of o2.lst, h0, by rw [ev, List.getElem?_map, hm]; rfl, ?_⟩
    refine h σ B2 H2 s2.w s2.fit _ fun d3 v3 B3 H3 pe t3 hd3 => ?_
    obtain ⟨n, rfl⟩ := he _ pe
    have s3 := s2.step t3
    obtain ⟨a3, vs3, o3⟩ := s3.own (i, ns.map D.int) List.mem_cons_self
    have ea : a3 = a2 := by
      have z := o3.at_.symm.trans o2.at_
      injection z with z; injection z with z; injection z
    subst ea
    refine ⟨_, _, rfl, den_int.mp hd3, a3, vs3, k, k.toNat, rfl, den_int.mp hd2, o3.lst, ?_, nx σ B3 _ (t2.b.trans t3.b) ⟨k, n, _, pk, pe, h0, hm, ?_⟩⟩
    · have : ixN vs3.length k = some k.toNat := ix_ok o3.den h0 (by rw [List.length_map]; exact h1)
      exact this
    · have z := s3.mut o3 (es := (ns.map D.int).set k.toNat (.int (ns[k.toNat] + n))) (us := vs3.set k.toNat (.int (ns[k.toNat] + n))) (o3.den.set (den_int.mpr rfl) _) hn
      rw [← List.map_set] at z
      exact z))
  (fun σ B H ⟨k, n, m, pk, pe, h0, hm, s⟩ => kk k n m pk pe h0 hm σ B H s)
end
end Z
end
section
set_option Elab.async false
set_option linter.all false
set_option maxRecDepth 100000
set_option maxHeartbeats 2000000
namespace Z
open PySem PySem.Spec PyProof.Rows L2 RZ
section
variable {X : Cx} {J : Jx} {Γ : Gam} {e a b c : Expr} {es : List Expr} {pos p : Pos} {P : D → Prop} {d : D} {ds : List D}
theorem ep_none : EvP X J Γ none none := rfl
theorem ep_some {i : Int} (h : Ev X J Γ e (· = .int i)) : EvP X J Γ (some e) (some i) := ⟨i, rfl, h⟩
theorem EvO.is {ds ds' : List D} (h : EvO X J Γ e (· = ds)) (k : ds = ds') : EvO X J Γ e (· = ds') := h.weak fun _ p => p.trans k
theorem x_lenL (hm : X.mg "len" = none) (ha : Ev X J Γ e (· = .lst ds)) (hg : Gl X "len" := by rfl) (he : starEach [e] X.env = (false, eval e X.env) :: starEach [] X.env := by rfl) (hpl : (backTo pos (starEach [] X.env)).any (·.1) = false := by rfl) : Ev X J Γ (.Call (.Name "len" p) [e] [] pos) (· = .int ds.length) :=
  x_blt call_len_seq hm (by decide +kernel) (a_cons ha a_nil he) (fun _ e => by subst e; exact c_lenL rfl) hg (by decide) (by decide) he hpl
theorem x_lenT (hm : X.mg "len" = none) (ha : Ev X J Γ e (· = .tup ds)) (hg : Gl X "len" := by rfl) (he : starEach [e] X.env = (false, eval e X.env) :: starEach [] X.env := by rfl) (hpl : (backTo pos (starEach [] X.env)).any (·.1) = false := by rfl) : Ev X J Γ (.Call (.Name "len" p) [e] [] pos) (· = .int ds.length) :=
  x_blt call_len_seq hm (by decide +kernel) (a_cons ha a_nil he) (fun _ e => by subst e; exact c_lenT rfl) hg (by decide) (by decide) he hpl
theorem x_list (hm : X.mg "list" = none) (ha : Ev X J Γ e (· = .lst ds)) (hg : Gl X "list" := by rfl) (he : starEach [e] X.env = (false, eval e X.env) :: starEach [] X.env := by rfl) (hpl : (backTo pos (starEach [] X.env)).any (·.1) = false := by rfl) : Ev X J Γ (.Call (.Name "list" p) [e] [] pos) (· = .lst ds) :=
  x_bty (T := "list") call_list_of hm (by decide +kernel) (a_cons ha a_nil he) (fun _ e => by subst e; exact c_lstL rfl) hg (by decide) (by decide) he hpl
theorem x_tuple (hm : X.mg "tuple" = none) (ha : Ev X J Γ e (· = .lst ds)) (hg : Gl X "tuple" := by rfl) (he : starEach [e] X.env = (false, eval e X.env) :: starEach [] X.env := by rfl) (hpl : (backTo pos (starEach [] X.env)).any (·.1) = false := by rfl) : Ev X J Γ (.Call (.Name "tuple" p) [e] [] pos) (· = .tup ds) :=
  x_bty (T := "tuple") call_tuple_of hm (by decide +kernel) (a_cons ha a_nil he) (fun _ e => by subst e; exact c_tupL rfl) hg (by decide) (by decide) he hpl
theorem x_tupleP {PL : List D → Prop} (hm : X.mg "tuple" = none) (ha : Ev X J Γ e (fun d => ∃ ds, d = .lst ds ∧ PL ds)) (hg : Gl X "tuple" := by rfl) (he : starEach [e] X.env = (false, eval e X.env) :: starEach [] X.env := by rfl) (hpl : (backTo pos (starEach [] X.env)).any (·.1) = false := by rfl) : Ev X J Γ (.Call (.Name "tuple" p) [e] [] pos) (fun d => ∃ ds, d = .tup ds ∧ PL ds) :=
  x_bty (T := "tuple") (PS := fun l => ∃ ds, l = [.lst ds] ∧ PL ds) call_tuple_of hm (by decide +kernel) (a_consP ha a_nil (fun d l ⟨ds, e1, h⟩ e2 => ⟨ds, by rw [e1, e2], h⟩) he) (fun _ ⟨ds, e, h⟩ => by subst e; exact c_tupL ⟨ds, rfl, h⟩) hg (by decide) (by decide) he hpl
theorem x_sum {ns : List Int} (hm : X.mg "sum" = none) (ha : Ev X J Γ e (· = .lst (ns.map D.int))) (hc : X.calm = true := by rfl) (hg : Gl X "sum" := by rfl) (he : starEach [e] X.env = (false, eval e X.env) :: starEach [] X.env := by rfl) (hpl : (backTo pos (starEach [] X.env)).any (·.1) = false := by rfl) : Ev X J Γ (.Call (.Name "sum" p) [e] [] pos) (· = .int ns.sum) :=
  x_blt (cr_sum hc) hm (by decide +kernel) (a_cons ha a_nil he) (fun _ e => by subst e; exact c_sum rfl) hg (by decide) (by decide) he hpl
theorem x_minL {ns : List Int} (hm : X.mg "min" = none) (ha : Ev X J Γ e (· = .lst (ns.map D.int))) (hl : 0 < ns.length) (q : ∀ m, m ∈ ns → (∀ y, y ∈ ns → m ≤ y) → P (.int m)) (hc : X.calm = true := by rfl) (hg : Gl X "min" := by rfl) (he : starEach [e] X.env = (false, eval e X.env) :: starEach [] X.env := by rfl) (hpl : (backTo pos (starEach [] X.env)).any (·.1) = false := by rfl) : Ev X J Γ (.Call (.Name "min" p) [e] [] pos) P :=
  x_blt (cr_min hc) hm (by decide +kernel) (a_cons ha a_nil he) (fun _ e => by subst e; exact c_min hl q) hg (by decide) (by decide) he hpl
theorem x_maxL {ns : List Int} (hm : X.mg "max" = none) (ha : Ev X J Γ e (· = .lst (ns.map D.int))) (hl : 0 < ns.length) (q : ∀ m, m ∈ ns → (∀ y, y ∈ ns → y ≤ m) → P (.int m)) (hc : X.calm = true := by rfl) (hg : Gl X "max" := by rfl) (he : starEach [e] X.env = (false, eval e X.env) :: starEach [] X.env := by rfl) (hpl : (backTo pos (starEach [] X.env)).any (·.1) = false := by rfl) : Ev X J Γ (.Call (.Name "max" p) [e] [] pos) P :=
  x_blt (cr_max hc) hm (by decide +kernel) (a_cons ha a_nil he) (fun _ e => by subst e; exact c_max hl q) hg (by decide) (by decide) he hpl
theorem x_minT {ns : List Int} {k : Nat} (hr : Room k X.A) (hm : X.mg "min" = none) (ha : Ev X J Γ e (· = .tup (ns.map D.int))) (hl : 0 < ns.length) (q : ∀ m, m ∈ ns → (∀ y, y ∈ ns → m ≤ y) → P (.int m)) (hc : X.calm = true := by rfl) (hg : Gl X "min" := by rfl) (he : starEach [e] X.env = (false, eval e X.env) :: starEach [] X.env := by rfl) (hpl : (backTo pos (starEach [] X.env)).any (·.1) = false := by rfl) : Ev X J Γ (.Call (.Name "min" p) [e] [] pos) P :=
  x_blt (cr_minT hr hc) hm (by decide +kernel) (a_cons ha a_nil he) (fun _ e => by subst e; exact c_minT hl q) hg (by decide) (by decide) he hpl
theorem x_maxT {ns : List Int} {k : Nat} (hr : Room k X.A) (hm : X.mg "max" = none) (ha : Ev X J Γ e (· = .tup (ns.map D.int))) (hl : 0 < ns.length) (q : ∀ m, m ∈ ns → (∀ y, y ∈ ns → y ≤ m) → P (.int m)) (hc : X.calm = true := by rfl) (hg : Gl X "max" := by rfl) (he : starEach [e] X.env = (false, eval e X.env) :: starEach [] X.env := by rfl) (hpl : (backTo pos (starEach [] X.env)).any (·.1) = false := by rfl) : Ev X J Γ (.Call (.Name "max" p) [e] [] pos) P :=
  x_blt (cr_maxT hr hc) hm (by decide +kernel) (a_cons ha a_nil he) (fun _ e => by subst e; exact c_maxT hl q) hg (by decide) (by decide) he hpl
theorem x_abs {i : Int} (hm : X.mg "abs" = none) (ha : Ev X J Γ e (· = .int i)) (hg : Gl X "abs" := by rfl) (he : starEach [e] X.env = (false, eval e X.env) :: starEach [] X.env := by rfl) (hpl : (backTo pos (starEach [] X.env)).any (·.1) = false := by rfl) : Ev X J Γ (.Call (.Name "abs" p) [e] [] pos) (· = .int (if i < 0 then -i else i)) :=
  x_blt call_abs hm (by decide +kernel) (a_cons ha a_nil he) (fun _ e => by subst e; exact c_abs rfl) hg (by decide) (by decide) he hpl
theorem x_intI {i : Int} (hm : X.mg "int" = none) (ha : Ev X J Γ e (· = .int i)) (hg : Gl X "int" := by rfl) (he : starEach [e] X.env = (false, eval e X.env) :: starEach [] X.env := by rfl) (hpl : (backTo pos (starEach [] X.env)).any (·.1) = false := by rfl) : Ev X J Γ (.Call (.Name "int" p) [e] [] pos) (· = .int i) :=
  x_bty (T := "int") call_int1 hm (by decide +kernel) (a_cons ha a_nil he) (fun _ e => by subst e; exact c_int1 rfl) hg (by decide) (by decide) he hpl
theorem x_intB {i : Bool} (hm : X.mg "int" = none) (ha : Ev X J Γ e (· = .bl i)) (hg : Gl X "int" := by rfl) (he : starEach [e] X.env = (false, eval e X.env) :: starEach [] X.env := by rfl) (hpl : (backTo pos (starEach [] X.env)).any (·.1) = false := by rfl) : Ev X J Γ (.Call (.Name "int" p) [e] [] pos) (· = .int (if i then 1 else 0)) :=
  x_bty (T := "int") call_int1 hm (by decide +kernel) (a_cons ha a_nil he) (fun _ e => by subst e; exact c_intB rfl) hg (by decide) (by decide) he hpl
theorem x_all {bs : List Bool} (hm : X.mg "all" = none) (ha : Ev X J Γ e (· = .lst (bs.map D.bl))) (hc : X.calm = true := by rfl) (hg : Gl X "all" := by rfl) (he : starEach [e] X.env = (false, eval e X.env) :: starEach [] X.env := by rfl) (hpl : (backTo pos (starEach [] X.env)).any (·.1) = false := by rfl) : Ev X J Γ (.Call (.Name "all" p) [e] [] pos) (· = .bl (bs.all id)) :=
  x_blt (cr_all hc) hm (by decide +kernel) (a_cons ha a_nil he) (fun _ e => by subst e; exact c_all rfl) hg (by decide) (by decide) he hpl
end
end Z
end
section
set_option Elab.async false
set_option linter.all false
set_option maxRecDepth 100000
set_option maxHeartbeats 0
namespace ZH
open PySem PySem.Spec PyProof.Rows L2 He
/-! ### the head: what the top leaves, by names -/
def top (i : Nat) : Stmt := PySem.Challenge.pw_softchances_k70_whole_one_quote_may_be_w.main.body.getD i (.Pass ⟨0, 0, 0, 0⟩)
/-- a property's getter -/
def pg (K : PySem.W.Frag) (C f : Str) : Addr := match PySem.W.recIn K (ma K (ga K C) f) "property" with
  | some (.ref g :: _) => g
  | _ => 0
inductive Wh where
  | glo (x : Str) | met (c m : Str) | pro (c m : Str)
def Wh.ad (K : PySem.W.Frag) : Wh → Addr
  | .glo x => ga K x
  | .met c m => ma K (ga K c) m
  | .pro c m => pg K c m
structure DZ where
  wh : Wh
  name : Str
  qual : Str
  st : Stmt
def fnA (K : PySem.W.Frag) (a : Addr) : FnV := match K.lookup a with
  | some ⟨_, _, .func fd, _⟩ => some (fd.name, fd.qualname, fd.params, fd.body, fd.scope, fd.globals, fd.closure, fd.defaults, fd.builtins)
  | _ => none
def DZ.val (d : DZ) : FnV := some (d.name, d.qual, defArgs d.st, .stmts (defBody d.st), defScope d.st, mainGlobals, [], .none, builtinsNs)
def DZ.ok (K : PySem.W.Frag) (d : DZ) : Bool := PySem.W.keepIn K (.ref (d.wh.ad K)) && (match K.lookup (d.wh.ad K) with
  | some ⟨_, _, .func fd, _⟩ => PySem.W.codeIn K fd.code d.qual
  | _ => false)
theorem DZ.fun_ {K : PySem.W.Frag} {d : DZ} (e : fnA K (d.wh.ad K) = d.val) (c : d.ok K = true) : ∃ fd, Fun K d.name d.qual d.st (d.wh.ad K) fd := by
  obtain ⟨kp, c2⟩ := ba c
  unfold fnA at e
  cases q : K.lookup (d.wh.ad K) with
  | none =>
    rw [q] at c2
    cases c2
  | some o =>
    obtain ⟨oc, od, dt, osl⟩ := o
    rw [q] at c2 e
    cases dt with
    | func fd =>
      obtain ⟨n1, n2, n3, n4, n5, n6, n7, n8, n9, n10, n11, n12, n13, n14, n15⟩ := fd
      have e2 : (some (n1, n2, n3, n4, n5, n6, n7, n8, n15) : FnV) = some (d.name, d.qual, defArgs d.st, .stmts (defBody d.st), defScope d.st, mainGlobals, [], .none, builtinsNs) := e
      simp only [Option.some.injEq, Prod.mk.injEq] at e2
      obtain ⟨h1, h2, h3, h4, h5, h6, h7, h8, h9⟩ := e2
      subst h1 h2 h3 h4 h5 h6 h7 h8 h9
      exact ⟨_, ⟨⟨oc, od, n9, n10, n11, n12, n13, n14, osl, rfl, q, c2⟩, kp⟩⟩
    | _ => cases c2
/-! ### more facts -/
def aeTail : List Value := [.type "ArithmeticError", .type "Exception", .type "BaseException", .type "object"]
def propB (K : PySem.W.Frag) (C f : Str) : Bool := eqO (PySem.W.findIn K (.ref (ga K C)) f) (some (some (.ref (ma K (ga K C) f)))) && (eqO (PySem.W.specialIn K (.ref (ma K (ga K C) f)) "__get__") (some (some (.builtin "property.__get__"))) &&
  (decide (PySem.W.takesIn K (.ref (ma K (ga K C) f)) = some true) && (match PySem.W.recIn K (ma K (ga K C) f) "property" with
    | some (.ref _ :: _) => true
    | _ => false)))
theorem propB_ok {K : PySem.W.Frag} {C f : Str} (h : propB K C f = true) : PropOf K (ga K C) f (ma K (ga K C) f) (pg K C f) := by
  obtain ⟨h1, h⟩ := ba h
  obtain ⟨h2, h⟩ := ba h
  obtain ⟨h3, h4⟩ := ba h
  refine ⟨eqO_ok h1, eqO_ok h2, of_decide_eq_true h3, ?_⟩
  unfold pg
  cases e : PySem.W.recIn K (ma K (ga K C) f) "property" with
  | none =>
    rw [e] at h4
    cases h4
  | some l =>
    rw [e] at h4
    cases l with
    | nil => cases h4
    | cons v r =>
      cases v with
      | ref g => exact ⟨r, rfl⟩
      | _ => cases h4
def instB (K : PySem.W.Frag) (C : Str) : Bool := eqO (PySem.W.findIn K (.ref (ga K C)) "__class__") (some (some (.builtin "object.__class__"))) && (eqO (PySem.W.specialIn K (.builtin "object.__class__") "__get__") (some (some (.builtin "getset_descriptor.__get__"))) &&
  (decide (PySem.W.takesIn K (.builtin "object.__class__") = some true) && (decide (PySem.W.mroIn K (ga K C) (.type "object") = some true) && decide (PySem.W.kitOne K (.ref (ga K C)) (.ref (ga K C)) = some true))))
structure InstOk (K : PySem.W.Frag) (C : Addr) : Prop where
  ha : PySem.W.findIn K (.ref C) "__class__" = some (some (.builtin "object.__class__"))
  hn : PySem.W.specialIn K (.builtin "object.__class__") "__get__" = some (some (.builtin "getset_descriptor.__get__"))
  htk : PySem.W.takesIn K (.builtin "object.__class__") = some true
  hm : PySem.W.mroIn K C (.type "object") = some true
  kit : PySem.W.kitOne K (.ref C) (.ref C) = some true
theorem instB_ok {K : PySem.W.Frag} {C : Str} (h : instB K C = true) : InstOk K (ga K C) := by
  obtain ⟨h1, h⟩ := ba h
  obtain ⟨h2, h⟩ := ba h
  obtain ⟨h3, h⟩ := ba h
  obtain ⟨h4, h5⟩ := ba h
  exact ⟨eqO_ok h1, eqO_ok h2, of_decide_eq_true h3, of_decide_eq_true h4, of_decide_eq_true h5⟩
/-- an own exception over ArithmeticError -/
def excB (K : PySem.W.Frag) (x : Str) : Bool := PySem.W.excIn K (ga K x) aeTail "ArithmeticError.__new__" && (PySem.W.keepIn K (.ref (ga K x)) && (decide (PySem.W.subIn K (.ref (ga K x)) (.type "BaseException") = some true) && (decide (PySem.W.typeIn K (.ref (ga K x)) = some (.type "type")) && decide (PySem.W.exmOne K (.ref (ga K x)) (.ref (ga K x)) = some true))))
structure ExcOk (K : PySem.W.Frag) (C : Addr) : Prop where
  ex : PySem.W.excIn K C aeTail "ArithmeticError.__new__" = true
  kp : PySem.W.keepIn K (.ref C) = true
  sub : PySem.W.subIn K (.ref C) (.type "BaseException") = some true
  ty : PySem.W.typeIn K (.ref C) = some (.type "type")
  exm : PySem.W.exmOne K (.ref C) (.ref C) = some true
theorem excB_ok {K : PySem.W.Frag} {x : Str} (h : excB K x = true) : ExcOk K (ga K x) := by
  obtain ⟨h1, h⟩ := ba h
  obtain ⟨h2, h⟩ := ba h
  obtain ⟨h3, h⟩ := ba h
  obtain ⟨h4, h5⟩ := ba h
  exact ⟨h1, h2, of_decide_eq_true h3, of_decide_eq_true h4, of_decide_eq_true h5⟩
def ex (K : PySem.W.Frag) : Bool := propB K "Book" "outcomes" && (propB K "Book" "quotes" && (instB K "Book" && excB K "NotSound"))
/-! ### the Hook -/
abbrev AlZ : Type := Bool × List FnV
def obsZ (fa : List Fa) (fn : List DZ) (K : PySem.W.Frag) : AlZ := ((fa.all fun f => f.ok K) && ((fn.all fun d => d.ok K) && ex K), fn.map fun d => fnA K (d.wh.ad K))
def valZ (fn : List DZ) : AlZ := (true, fn.map DZ.val)
def SaysZ (fa : List Fa) (fn : List DZ) (K : PySem.W.Frag) : Prop := obsZ fa fn K = valZ fn
def asN (n : Nat) : List Addr := mainGlobals :: List.range n
def obsZG (fa : List Fa) (fn : List DZ) (n : Nat) (g : Addr → Option Obj) : AlZ := obsZ fa fn (frG g (asN n))
def hookZ (fa : List Fa) (fn : List DZ) : PySem.W.Hook where
  α := AlZ
  obs := fun s => obsZG fa fn s.heap.objs.size s.heap.get?
  val := fun _ => valZ fn
  says := fun _ h => ∃ K : PySem.W.Frag, K.In h ∧ SaysZ fa fn K
  of := fun _ _ e => ⟨_, frG_in, e⟩
  keeps := fun _ _ _ ⟨K, hK, c⟩ k => ⟨K, PySem.W.Frag.In.keeps hK k, c⟩
theorem obsZG_eq {fa : List Fa} {fn : List DZ} {n : Nat} {g : Addr → Option Obj} {s : Shared} (hn : n = s.heap.objs.size) (h : ∀ a, g a = s.heap.get? a) : obsZG fa fn n g = (hookZ fa fn).obs s := by
  have e : g = s.heap.get? := funext h
  rw [e, hn] <;> rfl
section
variable {fa : List Fa} {fn : List DZ} {K : PySem.W.Frag}
theorem SaysZ.fact (c : SaysZ fa fn K) {f : Fa} (h : f ∈ fa) : f.ok K = true := by
  have c1 := (ba (show ((fa.all fun f => f.ok K) && ((fn.all fun d => d.ok K) && ex K)) = true from congrArg (fun z : AlZ => z.1) c)).1
  exact List.all_eq_true.mp c1 f h
theorem SaysZ.more (c : SaysZ fa fn K) : ex K = true := (ba (ba (show ((fa.all fun f => f.ok K) && ((fn.all fun d => d.ok K) && ex K)) = true from congrArg (fun z : AlZ => z.1) c)).2).2
theorem SaysZ.def_ (c : SaysZ fa fn K) (i : Nat) {d : DZ} (h : fn[i]? = some d := by rfl) : ∃ fd, Fun K d.name d.qual d.st (d.wh.ad K) fd := by
  have c2 := (ba (ba (show ((fa.all fun f => f.ok K) && ((fn.all fun d => d.ok K) && ex K)) = true from congrArg (fun z : AlZ => z.1) c)).2).1
  have e : fn.map (fun d => fnA K (d.wh.ad K)) = fn.map DZ.val := congrArg (fun z : AlZ => z.2) c
  have e2 : (fn.map fun d => fnA K (d.wh.ad K))[i]? = (fn.map DZ.val)[i]? := by rw [e]
  rw [List.getElem?_map, List.getElem?_map, h] at e2
  exact DZ.fun_ (Option.some.inj e2) (List.all_eq_true.mp c2 d (List.mem_of_getElem? h))
end

def fn0 : List DZ := [
  ⟨.glo "is_integer", "is_integer", "is_integer", (top 14)⟩,
  ⟨.glo "is_between", "is_between", "is_between", (top 15)⟩,
  ⟨.glo "common_divisor", "common_divisor", "common_divisor", (top 18)⟩,
  ⟨.glo "is_fraction", "is_fraction", "is_fraction", (top 19)⟩,
  ⟨.glo "lowest", "lowest", "lowest", (top 22)⟩,
  ⟨.glo "plus", "plus", "plus", (top 23)⟩,
  ⟨.glo "is_less", "is_less", "is_less", (top 24)⟩,
  ⟨.glo "added", "added", "added", (top 25)⟩,
  ⟨.glo "greater_of", "greater_of", "greater_of", (top 26)⟩,
  ⟨.glo "lesser_of", "lesser_of", "lesser_of", (top 27)⟩,
  ⟨.glo "greatest_in", "greatest_in", "greatest_in", (top 28)⟩,
  ⟨.glo "least_in", "least_in", "least_in", (top 29)⟩,
  ⟨.glo "written", "written", "written", (top 30)⟩,
  ⟨.met "Answer" "__init__", "__init__", "Answer.__init__", (inClass (top 39) 0)⟩,
  ⟨.met "Table" "__init__", "__init__", "Table.__init__", (inClass (top 40) 0)⟩,
  ⟨.met "Table" "entering", "entering", "Table.entering", (inClass (top 40) 1)⟩,
  ⟨.met "Table" "leaving", "leaving", "Table.leaving", (inClass (top 40) 2)⟩,
  ⟨.met "Table" "is_ahead", "is_ahead", "Table.is_ahead", (inClass (top 40) 3)⟩,
  ⟨.met "Table" "turn", "turn", "Table.turn", (inClass (top 40) 4)⟩,
  ⟨.met "Table" "numbers_now", "numbers_now", "Table.numbers_now", (inClass (top 40) 5)⟩]
def fn1 : List DZ := [
  ⟨.met "Table" "way_of", "way_of", "Table.way_of", (inClass (top 40) 6)⟩,
  ⟨.met "Table" "multiples_now", "multiples_now", "Table.multiples_now", (inClass (top 40) 7)⟩,
  ⟨.glo "greatest_sum", "greatest_sum", "greatest_sum", (top 41)⟩,
  ⟨.glo "is_payoff", "is_payoff", "is_payoff", (top 43)⟩,
  ⟨.glo "is_price", "is_price", "is_price", (top 44)⟩,
  ⟨.glo "is_quote", "is_quote", "is_quote", (top 45)⟩,
  ⟨.glo "check_quotes", "check_quotes", "check_quotes", (top 46)⟩,
  ⟨.glo "quote_text", "quote_text", "quote_text", (top 47)⟩,
  ⟨.glo "check_payoff", "check_payoff", "check_payoff", (top 49)⟩,
  ⟨.met "Book" "__init__", "__init__", "Book.__init__", (inClass (top 50) 0)⟩,
  ⟨.pro "Book" "outcomes", "outcomes", "Book.outcomes", (inClass (top 50) 2)⟩,
  ⟨.pro "Book" "quotes", "quotes", "Book.quotes", (inClass (top 50) 3)⟩,
  ⟨.glo "less_one", "less_one", "less_one", (top 51)⟩,
  ⟨.glo "check_book", "check_book", "check_book", (top 53)⟩,
  ⟨.glo "is_share", "is_share", "is_share", (top 54)⟩,
  ⟨.glo "check_chance", "check_chance", "check_chance", (top 55)⟩,
  ⟨.glo "worth_at", "worth_at", "worth_at", (top 56)⟩,
  ⟨.glo "gain_rows", "gain_rows", "gain_rows", (top 57)⟩,
  ⟨.glo "least_answer", "least_answer", "least_answer", (top 58)⟩,
  ⟨.glo "plain_answer", "plain_answer", "plain_answer", (top 59)⟩]
def fn2 : List DZ := [
  ⟨.glo "is_kept_by_some", "is_kept_by_some", "is_kept_by_some", (top 60)⟩,
  ⟨.glo "check_sound", "check_sound", "check_sound", (top 61)⟩,
  ⟨.glo "is_sound", "is_sound", "is_sound", (top 62)⟩,
  ⟨.glo "least_by", "least_by", "least_by", (top 64)⟩,
  ⟨.glo "greatest_by", "greatest_by", "greatest_by", (top 65)⟩,
  ⟨.glo "turned", "turned", "turned", (top 66)⟩,
  ⟨.glo "check_asked", "check_asked", "check_asked", (top 67)⟩,
  ⟨.glo "least_worth", "least_worth", "least_worth", (top 68)⟩,
  ⟨.glo "but_one", "but_one", "but_one", (top 70)⟩,
  ⟨.glo "least_but_one", "least_but_one", "least_but_one", (top 71)⟩,
  ⟨.glo "greatest_but_one", "greatest_but_one", "greatest_but_one", (top 72)⟩,
  ⟨.glo "is_left", "is_left", "is_left", (top 73)⟩,
  ⟨.glo "culprits", "culprits", "culprits", (top 75)⟩,
  ⟨.glo "_law_jar", "_law_jar", "_law_jar", (top 77)⟩,
  ⟨.glo "_law_dip", "_law_dip", "_law_dip", (top 78)⟩,
  ⟨.glo "_law_one_of", "_law_one_of", "_law_one_of", (top 79)⟩,
  ⟨.glo "_law_common", "_law_common", "_law_common", (top 80)⟩,
  ⟨.glo "_law_low", "_law_low", "_law_low", (top 81)⟩,
  ⟨.glo "_law_plus", "_law_plus", "_law_plus", (top 82)⟩,
  ⟨.glo "_law_times", "_law_times", "_law_times", (top 83)⟩]
def fn3 : List DZ := [
  ⟨.glo "_law_less", "_law_less", "_law_less", (top 84)⟩,
  ⟨.glo "_law_least", "_law_least", "_law_least", (top 85)⟩,
  ⟨.glo "_law_minus", "_law_minus", "_law_minus", (top 86)⟩,
  ⟨.glo "_law_worth", "_law_worth", "_law_worth", (top 87)⟩,
  ⟨.glo "_law_payoff", "_law_payoff", "_law_payoff", (top 88)⟩,
  ⟨.glo "_law_chance", "_law_chance", "_law_chance", (top 89)⟩,
  ⟨.glo "_law_quotes", "_law_quotes", "_law_quotes", (top 90)⟩,
  ⟨.glo "_law_rows", "_law_rows", "_law_rows", (top 91)⟩,
  ⟨.glo "_law_det", "_law_det", "_law_det", (top 92)⟩,
  ⟨.glo "_law_lots", "_law_lots", "_law_lots", (top 93)⟩,
  ⟨.glo "_law_corners", "_law_corners", "_law_corners", (top 94)⟩,
  ⟨.glo "_law_ahead", "_law_ahead", "_law_ahead", (top 95)⟩,
  ⟨.glo "_law_in_order", "_law_in_order", "_law_in_order", (top 96)⟩,
  ⟨.glo "_law_least_by", "_law_least_by", "_law_least_by", (top 97)⟩,
  ⟨.glo "_law_greatest_by", "_law_greatest_by", "_law_greatest_by", (top 98)⟩,
  ⟨.glo "_law_bad", "_law_bad", "_law_bad", (top 99)⟩,
  ⟨.glo "_law_ends", "_law_ends", "_law_ends", (top 100)⟩,
  ⟨.glo "_law_left_right", "_law_left_right", "_law_left_right", (top 101)⟩,
  ⟨.glo "_law_right", "_law_right", "_law_right", (top 102)⟩,
  ⟨.glo "law", "law", "law", (top 103)⟩]
def fn : List DZ := fn0 ++ (fn1 ++ (fn2 ++ (fn3)))
def fa0 : List Fa := [
  .glo "is_integer",
  .glo "is_between",
  .glo "common_divisor",
  .glo "is_fraction",
  .glo "lowest",
  .glo "plus",
  .glo "is_less",
  .glo "added",
  .glo "greater_of",
  .glo "lesser_of",
  .glo "greatest_in",
  .glo "least_in",
  .glo "written",
  .glo "greatest_sum",
  .glo "is_payoff",
  .glo "is_price",
  .glo "is_quote",
  .glo "check_quotes",
  .glo "quote_text",
  .glo "check_payoff"]
def fa1 : List Fa := [
  .glo "less_one",
  .glo "check_book",
  .glo "is_share",
  .glo "check_chance",
  .glo "worth_at",
  .glo "gain_rows",
  .glo "least_answer",
  .glo "plain_answer",
  .glo "is_kept_by_some",
  .glo "check_sound",
  .glo "is_sound",
  .glo "least_by",
  .glo "greatest_by",
  .glo "turned",
  .glo "check_asked",
  .glo "least_worth",
  .glo "but_one",
  .glo "least_but_one",
  .glo "greatest_but_one",
  .glo "is_left"]
def fa2 : List Fa := [
  .glo "culprits",
  .glo "_law_jar",
  .glo "_law_dip",
  .glo "_law_one_of",
  .glo "_law_common",
  .glo "_law_low",
  .glo "_law_plus",
  .glo "_law_times",
  .glo "_law_less",
  .glo "_law_least",
  .glo "_law_minus",
  .glo "_law_worth",
  .glo "_law_payoff",
  .glo "_law_chance",
  .glo "_law_quotes",
  .glo "_law_rows",
  .glo "_law_det",
  .glo "_law_lots",
  .glo "_law_corners",
  .glo "_law_ahead"]
def fa3 : List Fa := [
  .glo "_law_in_order",
  .glo "_law_least_by",
  .glo "_law_greatest_by",
  .glo "_law_bad",
  .glo "_law_ends",
  .glo "_law_left_right",
  .glo "_law_right",
  .glo "law",
  .glo "Answer",
  .glo "Table",
  .glo "Book",
  .glo "NotSound",
  .free "len",
  .free "range",
  .free "zip",
  .free "tuple",
  .free "min",
  .free "max",
  .free "abs",
  .free "sum"]
def fa4 : List Fa := [
  .free "all",
  .free "int",
  .free "divmod",
  .free "isinstance",
  .free "enumerate",
  .free "list",
  .free "str",
  .free "bool",
  .int "MOST_OUTCOMES" 6,
  .int "MOST_NUMBER" 1000,
  .int "MOST_QUOTES" 32,
  .int "MOST_TOP" 1000000000,
  .int "MOST_BOTTOM" 1000000,
  .int "MOST_PRICE_TOP" 1000000,
  .int "MOST_PRICE_BOTTOM" 1000,
  .cls "Answer",
  .mkr "Answer",
  .noat "Answer" "value",
  .noat "Answer" "numbers",
  .noat "Answer" "multiples"]
def fa5 : List Fa := [
  .cls "Table",
  .mkr "Table",
  .noat "Table" "many",
  .noat "Table" "size",
  .noat "Table" "unit",
  .noat "Table" "basis",
  .noat "Table" "lines",
  .cls "Book",
  .mkr "Book",
  .noat "Book" "held",
  .noat "Book" "words",
  .meth "Table" "entering",
  .meth "Table" "leaving",
  .meth "Table" "is_ahead",
  .meth "Table" "turn",
  .meth "Table" "numbers_now",
  .meth "Table" "way_of",
  .meth "Table" "multiples_now"]
def fa : List Fa := fa0 ++ (fa1 ++ (fa2 ++ (fa3 ++ (fa4 ++ (fa5)))))
def loose0 : List Str := [
  "_wall",
  "__name__",
  "WrongValue",
  "InvalidText",
  "InvalidNumber",
  "InvalidPayoff",
  "InvalidIndex",
  "NotABook",
  "InvalidChance",
  "InvalidQuotes",
  "NoAnswer",
  "NotSound",
  "DIGITS",
  "is_integer",
  "is_between",
  "number_in",
  "integer_in",
  "common_divisor",
  "is_fraction",
  "fraction_in"]
def loose1 : List Str := [
  "lowest",
  "plus",
  "is_less",
  "added",
  "greater_of",
  "lesser_of",
  "greatest_in",
  "least_in",
  "written",
  "MOST_OUTCOMES",
  "MOST_NUMBER",
  "MOST_QUOTES",
  "MOST_TOP",
  "MOST_BOTTOM",
  "MOST_PRICE_TOP",
  "MOST_PRICE_BOTTOM",
  "Answer",
  "Table",
  "greatest_sum",
  "is_payoff"]
def loose2 : List Str := [
  "is_price",
  "is_quote",
  "check_quotes",
  "quote_text",
  "quote_in",
  "check_payoff",
  "Book",
  "less_one",
  "check_index",
  "check_book",
  "is_share",
  "check_chance",
  "worth_at",
  "gain_rows",
  "least_answer",
  "plain_answer",
  "is_kept_by_some",
  "check_sound",
  "is_sound",
  "least_by"]
def loose3 : List Str := [
  "greatest_by",
  "turned",
  "check_asked",
  "least_worth",
  "but_one",
  "least_but_one",
  "greatest_but_one",
  "is_left",
  "culprits",
  "_law_jar",
  "_law_dip",
  "_law_one_of",
  "_law_common",
  "_law_low",
  "_law_plus",
  "_law_times",
  "_law_less",
  "_law_least",
  "_law_minus",
  "_law_worth"]
def loose4 : List Str := [
  "_law_payoff",
  "_law_chance",
  "_law_quotes",
  "_law_rows",
  "_law_det",
  "_law_lots",
  "_law_corners",
  "_law_ahead",
  "_law_in_order",
  "_law_least_by",
  "_law_greatest_by",
  "_law_bad",
  "_law_ends",
  "_law_left_right",
  "_law_right"]
def loose : List Str := loose0 ++ (loose1 ++ (loose2 ++ (loose3 ++ (loose4))))
abbrev R : PySem.W.OpenRow := PySem.W.OpenLaw.row PySem.Challenge.rw_softchances_k70_whole_one_quote_may_be_w
abbrev hk : PySem.W.Hook := hookZ fa fn
def ob (s : PySem.W.SharedT) : AlZ := obsZG fa fn s.n (HandSHeadRun.getT s)
theorem ob_eq (s : PySem.W.SharedT) : ob s = hk.obs s.abs := obsZG_eq (PySem.W.absHeap_size s.tree s.n s.life).symm (HandSHeadRun.getT_eq s)
theorem run (w : World) : HandSHeadRun.RunEq R (PySem.W.view R.prog [103]) hk ob 6400 loose w := by
  intro os
  kernel_rfl
end ZH
end
section
set_option Elab.async false
set_option linter.all false
set_option maxRecDepth 100000
set_option maxHeartbeats 2000000
namespace Z
open PySem PySem.Spec PyProof.Rows L2
/-! ### the defs: names, where they stand, how arguments bind -/
/-- what the top has left -/
structure Fac (K : PySem.W.Frag) (mg : Str → Option Value) : Prop where
  c : ZH.SaysZ ZH.fa ZH.fn K
  glo : ∀ x : Str, (He.Fa.glo x).ok K = true → mg x = some (.ref (He.ga K x))
  free : ∀ x : Str, (He.Fa.free x).ok K = true → mg x = none
  int : ∀ (x : Str) (i : Int), (He.Fa.int x i).ok K = true → ∃ t, mg x = some (.int i t)
/-- a def of the top: it stands, its arguments bind, it keeps a promise -/
structure Ok (P : Program) (w : World) (K : PySem.W.Frag) (mg : Str → Option Value) (base : Heap) (x : Str) (k : Nat) (ps : List Str) (sp : Sp) : Prop where
  f : ∃ fd, FnOk P w K mg base CX0 k (He.ga K x) fd ps sp ∧ Binds K fd ps []
  kp : PySem.W.keepIn K (.ref (He.ga K x)) = true
  mg : mg x = some (.ref (He.ga K x))
section
variable {K : PySem.W.Frag} {mg : Str → Option Value}

theorem g_is_integer (T : Fac K mg) : mg "is_integer" = some (.ref (He.ga K "is_integer")) := T.glo _ (T.c.fact (List.mem_of_getElem? (i := 0) rfl))
theorem g_is_between (T : Fac K mg) : mg "is_between" = some (.ref (He.ga K "is_between")) := T.glo _ (T.c.fact (List.mem_of_getElem? (i := 1) rfl))
theorem g_common_divisor (T : Fac K mg) : mg "common_divisor" = some (.ref (He.ga K "common_divisor")) := T.glo _ (T.c.fact (List.mem_of_getElem? (i := 2) rfl))
theorem g_is_fraction (T : Fac K mg) : mg "is_fraction" = some (.ref (He.ga K "is_fraction")) := T.glo _ (T.c.fact (List.mem_of_getElem? (i := 3) rfl))
theorem g_lowest (T : Fac K mg) : mg "lowest" = some (.ref (He.ga K "lowest")) := T.glo _ (T.c.fact (List.mem_of_getElem? (i := 4) rfl))
theorem g_plus (T : Fac K mg) : mg "plus" = some (.ref (He.ga K "plus")) := T.glo _ (T.c.fact (List.mem_of_getElem? (i := 5) rfl))
theorem g_is_less (T : Fac K mg) : mg "is_less" = some (.ref (He.ga K "is_less")) := T.glo _ (T.c.fact (List.mem_of_getElem? (i := 6) rfl))
theorem g_added (T : Fac K mg) : mg "added" = some (.ref (He.ga K "added")) := T.glo _ (T.c.fact (List.mem_of_getElem? (i := 7) rfl))
theorem g_greater_of (T : Fac K mg) : mg "greater_of" = some (.ref (He.ga K "greater_of")) := T.glo _ (T.c.fact (List.mem_of_getElem? (i := 8) rfl))
theorem g_lesser_of (T : Fac K mg) : mg "lesser_of" = some (.ref (He.ga K "lesser_of")) := T.glo _ (T.c.fact (List.mem_of_getElem? (i := 9) rfl))
theorem g_greatest_in (T : Fac K mg) : mg "greatest_in" = some (.ref (He.ga K "greatest_in")) := T.glo _ (T.c.fact (List.mem_of_getElem? (i := 10) rfl))
theorem g_least_in (T : Fac K mg) : mg "least_in" = some (.ref (He.ga K "least_in")) := T.glo _ (T.c.fact (List.mem_of_getElem? (i := 11) rfl))
theorem g_written (T : Fac K mg) : mg "written" = some (.ref (He.ga K "written")) := T.glo _ (T.c.fact (List.mem_of_getElem? (i := 12) rfl))
theorem g_greatest_sum (T : Fac K mg) : mg "greatest_sum" = some (.ref (He.ga K "greatest_sum")) := T.glo _ (T.c.fact (List.mem_of_getElem? (i := 13) rfl))
theorem g_is_payoff (T : Fac K mg) : mg "is_payoff" = some (.ref (He.ga K "is_payoff")) := T.glo _ (T.c.fact (List.mem_of_getElem? (i := 14) rfl))
theorem g_is_price (T : Fac K mg) : mg "is_price" = some (.ref (He.ga K "is_price")) := T.glo _ (T.c.fact (List.mem_of_getElem? (i := 15) rfl))
theorem g_is_quote (T : Fac K mg) : mg "is_quote" = some (.ref (He.ga K "is_quote")) := T.glo _ (T.c.fact (List.mem_of_getElem? (i := 16) rfl))
theorem g_check_quotes (T : Fac K mg) : mg "check_quotes" = some (.ref (He.ga K "check_quotes")) := T.glo _ (T.c.fact (List.mem_of_getElem? (i := 17) rfl))
theorem g_quote_text (T : Fac K mg) : mg "quote_text" = some (.ref (He.ga K "quote_text")) := T.glo _ (T.c.fact (List.mem_of_getElem? (i := 18) rfl))
theorem g_check_payoff (T : Fac K mg) : mg "check_payoff" = some (.ref (He.ga K "check_payoff")) := T.glo _ (T.c.fact (List.mem_of_getElem? (i := 19) rfl))
theorem g_less_one (T : Fac K mg) : mg "less_one" = some (.ref (He.ga K "less_one")) := T.glo _ (T.c.fact (List.mem_of_getElem? (i := 20) rfl))
theorem g_check_book (T : Fac K mg) : mg "check_book" = some (.ref (He.ga K "check_book")) := T.glo _ (T.c.fact (List.mem_of_getElem? (i := 21) rfl))
theorem g_is_share (T : Fac K mg) : mg "is_share" = some (.ref (He.ga K "is_share")) := T.glo _ (T.c.fact (List.mem_of_getElem? (i := 22) rfl))
theorem g_check_chance (T : Fac K mg) : mg "check_chance" = some (.ref (He.ga K "check_chance")) := T.glo _ (T.c.fact (List.mem_of_getElem? (i := 23) rfl))
theorem g_worth_at (T : Fac K mg) : mg "worth_at" = some (.ref (He.ga K "worth_at")) := T.glo _ (T.c.fact (List.mem_of_getElem? (i := 24) rfl))
theorem g_gain_rows (T : Fac K mg) : mg "gain_rows" = some (.ref (He.ga K "gain_rows")) := T.glo _ (T.c.fact (List.mem_of_getElem? (i := 25) rfl))
theorem g_least_answer (T : Fac K mg) : mg "least_answer" = some (.ref (He.ga K "least_answer")) := T.glo _ (T.c.fact (List.mem_of_getElem? (i := 26) rfl))
theorem g_plain_answer (T : Fac K mg) : mg "plain_answer" = some (.ref (He.ga K "plain_answer")) := T.glo _ (T.c.fact (List.mem_of_getElem? (i := 27) rfl))
theorem g_is_kept_by_some (T : Fac K mg) : mg "is_kept_by_some" = some (.ref (He.ga K "is_kept_by_some")) := T.glo _ (T.c.fact (List.mem_of_getElem? (i := 28) rfl))
theorem g_check_sound (T : Fac K mg) : mg "check_sound" = some (.ref (He.ga K "check_sound")) := T.glo _ (T.c.fact (List.mem_of_getElem? (i := 29) rfl))
theorem g_is_sound (T : Fac K mg) : mg "is_sound" = some (.ref (He.ga K "is_sound")) := T.glo _ (T.c.fact (List.mem_of_getElem? (i := 30) rfl))
theorem g_least_by (T : Fac K mg) : mg "least_by" = some (.ref (He.ga K "least_by")) := T.glo _ (T.c.fact (List.mem_of_getElem? (i := 31) rfl))
theorem g_greatest_by (T : Fac K mg) : mg "greatest_by" = some (.ref (He.ga K "greatest_by")) := T.glo _ (T.c.fact (List.mem_of_getElem? (i := 32) rfl))
theorem g_turned (T : Fac K mg) : mg "turned" = some (.ref (He.ga K "turned")) := T.glo _ (T.c.fact (List.mem_of_getElem? (i := 33) rfl))
theorem g_check_asked (T : Fac K mg) : mg "check_asked" = some (.ref (He.ga K "check_asked")) := T.glo _ (T.c.fact (List.mem_of_getElem? (i := 34) rfl))
theorem g_least_worth (T : Fac K mg) : mg "least_worth" = some (.ref (He.ga K "least_worth")) := T.glo _ (T.c.fact (List.mem_of_getElem? (i := 35) rfl))
theorem g_but_one (T : Fac K mg) : mg "but_one" = some (.ref (He.ga K "but_one")) := T.glo _ (T.c.fact (List.mem_of_getElem? (i := 36) rfl))
theorem g_least_but_one (T : Fac K mg) : mg "least_but_one" = some (.ref (He.ga K "least_but_one")) := T.glo _ (T.c.fact (List.mem_of_getElem? (i := 37) rfl))
theorem g_greatest_but_one (T : Fac K mg) : mg "greatest_but_one" = some (.ref (He.ga K "greatest_but_one")) := T.glo _ (T.c.fact (List.mem_of_getElem? (i := 38) rfl))
theorem g_is_left (T : Fac K mg) : mg "is_left" = some (.ref (He.ga K "is_left")) := T.glo _ (T.c.fact (List.mem_of_getElem? (i := 39) rfl))
theorem g_culprits (T : Fac K mg) : mg "culprits" = some (.ref (He.ga K "culprits")) := T.glo _ (T.c.fact (List.mem_of_getElem? (i := 40) rfl))
theorem g_Ljar (T : Fac K mg) : mg "_law_jar" = some (.ref (He.ga K "_law_jar")) := T.glo _ (T.c.fact (List.mem_of_getElem? (i := 41) rfl))
theorem g_Ldip (T : Fac K mg) : mg "_law_dip" = some (.ref (He.ga K "_law_dip")) := T.glo _ (T.c.fact (List.mem_of_getElem? (i := 42) rfl))
theorem g_Lone_of (T : Fac K mg) : mg "_law_one_of" = some (.ref (He.ga K "_law_one_of")) := T.glo _ (T.c.fact (List.mem_of_getElem? (i := 43) rfl))
theorem g_Lcommon (T : Fac K mg) : mg "_law_common" = some (.ref (He.ga K "_law_common")) := T.glo _ (T.c.fact (List.mem_of_getElem? (i := 44) rfl))
theorem g_Llow (T : Fac K mg) : mg "_law_low" = some (.ref (He.ga K "_law_low")) := T.glo _ (T.c.fact (List.mem_of_getElem? (i := 45) rfl))
theorem g_Lplus (T : Fac K mg) : mg "_law_plus" = some (.ref (He.ga K "_law_plus")) := T.glo _ (T.c.fact (List.mem_of_getElem? (i := 46) rfl))
theorem g_Ltimes (T : Fac K mg) : mg "_law_times" = some (.ref (He.ga K "_law_times")) := T.glo _ (T.c.fact (List.mem_of_getElem? (i := 47) rfl))
theorem g_Lless (T : Fac K mg) : mg "_law_less" = some (.ref (He.ga K "_law_less")) := T.glo _ (T.c.fact (List.mem_of_getElem? (i := 48) rfl))
theorem g_Lleast (T : Fac K mg) : mg "_law_least" = some (.ref (He.ga K "_law_least")) := T.glo _ (T.c.fact (List.mem_of_getElem? (i := 49) rfl))
theorem g_Lminus (T : Fac K mg) : mg "_law_minus" = some (.ref (He.ga K "_law_minus")) := T.glo _ (T.c.fact (List.mem_of_getElem? (i := 50) rfl))
theorem g_Lworth (T : Fac K mg) : mg "_law_worth" = some (.ref (He.ga K "_law_worth")) := T.glo _ (T.c.fact (List.mem_of_getElem? (i := 51) rfl))
theorem g_Lpayoff (T : Fac K mg) : mg "_law_payoff" = some (.ref (He.ga K "_law_payoff")) := T.glo _ (T.c.fact (List.mem_of_getElem? (i := 52) rfl))
theorem g_Lchance (T : Fac K mg) : mg "_law_chance" = some (.ref (He.ga K "_law_chance")) := T.glo _ (T.c.fact (List.mem_of_getElem? (i := 53) rfl))
theorem g_Lquotes (T : Fac K mg) : mg "_law_quotes" = some (.ref (He.ga K "_law_quotes")) := T.glo _ (T.c.fact (List.mem_of_getElem? (i := 54) rfl))
theorem g_Lrows (T : Fac K mg) : mg "_law_rows" = some (.ref (He.ga K "_law_rows")) := T.glo _ (T.c.fact (List.mem_of_getElem? (i := 55) rfl))
theorem g_Ldet (T : Fac K mg) : mg "_law_det" = some (.ref (He.ga K "_law_det")) := T.glo _ (T.c.fact (List.mem_of_getElem? (i := 56) rfl))
theorem g_Llots (T : Fac K mg) : mg "_law_lots" = some (.ref (He.ga K "_law_lots")) := T.glo _ (T.c.fact (List.mem_of_getElem? (i := 57) rfl))
theorem g_Lcorners (T : Fac K mg) : mg "_law_corners" = some (.ref (He.ga K "_law_corners")) := T.glo _ (T.c.fact (List.mem_of_getElem? (i := 58) rfl))
theorem g_Lahead (T : Fac K mg) : mg "_law_ahead" = some (.ref (He.ga K "_law_ahead")) := T.glo _ (T.c.fact (List.mem_of_getElem? (i := 59) rfl))
theorem g_Lin_order (T : Fac K mg) : mg "_law_in_order" = some (.ref (He.ga K "_law_in_order")) := T.glo _ (T.c.fact (List.mem_of_getElem? (i := 60) rfl))
theorem g_Lleast_by (T : Fac K mg) : mg "_law_least_by" = some (.ref (He.ga K "_law_least_by")) := T.glo _ (T.c.fact (List.mem_of_getElem? (i := 61) rfl))
theorem g_Lgreatest_by (T : Fac K mg) : mg "_law_greatest_by" = some (.ref (He.ga K "_law_greatest_by")) := T.glo _ (T.c.fact (List.mem_of_getElem? (i := 62) rfl))
theorem g_Lbad (T : Fac K mg) : mg "_law_bad" = some (.ref (He.ga K "_law_bad")) := T.glo _ (T.c.fact (List.mem_of_getElem? (i := 63) rfl))
theorem g_Lends (T : Fac K mg) : mg "_law_ends" = some (.ref (He.ga K "_law_ends")) := T.glo _ (T.c.fact (List.mem_of_getElem? (i := 64) rfl))
theorem g_Lleft_right (T : Fac K mg) : mg "_law_left_right" = some (.ref (He.ga K "_law_left_right")) := T.glo _ (T.c.fact (List.mem_of_getElem? (i := 65) rfl))
theorem g_Lright (T : Fac K mg) : mg "_law_right" = some (.ref (He.ga K "_law_right")) := T.glo _ (T.c.fact (List.mem_of_getElem? (i := 66) rfl))
theorem g_law (T : Fac K mg) : mg "law" = some (.ref (He.ga K "law")) := T.glo _ (T.c.fact (List.mem_of_getElem? (i := 67) rfl))
theorem g_Answer (T : Fac K mg) : mg "Answer" = some (.ref (He.ga K "Answer")) := T.glo _ (T.c.fact (List.mem_of_getElem? (i := 68) rfl))
theorem g_Table (T : Fac K mg) : mg "Table" = some (.ref (He.ga K "Table")) := T.glo _ (T.c.fact (List.mem_of_getElem? (i := 69) rfl))
theorem g_Book (T : Fac K mg) : mg "Book" = some (.ref (He.ga K "Book")) := T.glo _ (T.c.fact (List.mem_of_getElem? (i := 70) rfl))
theorem g_NotSound (T : Fac K mg) : mg "NotSound" = some (.ref (He.ga K "NotSound")) := T.glo _ (T.c.fact (List.mem_of_getElem? (i := 71) rfl))
theorem b_len (T : Fac K mg) : mg "len" = none := T.free _ (T.c.fact (List.mem_of_getElem? (i := 72) rfl))
theorem b_range (T : Fac K mg) : mg "range" = none := T.free _ (T.c.fact (List.mem_of_getElem? (i := 73) rfl))
theorem b_zip (T : Fac K mg) : mg "zip" = none := T.free _ (T.c.fact (List.mem_of_getElem? (i := 74) rfl))
theorem b_tuple (T : Fac K mg) : mg "tuple" = none := T.free _ (T.c.fact (List.mem_of_getElem? (i := 75) rfl))
theorem b_min (T : Fac K mg) : mg "min" = none := T.free _ (T.c.fact (List.mem_of_getElem? (i := 76) rfl))
theorem b_max (T : Fac K mg) : mg "max" = none := T.free _ (T.c.fact (List.mem_of_getElem? (i := 77) rfl))
theorem b_abs (T : Fac K mg) : mg "abs" = none := T.free _ (T.c.fact (List.mem_of_getElem? (i := 78) rfl))
theorem b_sum (T : Fac K mg) : mg "sum" = none := T.free _ (T.c.fact (List.mem_of_getElem? (i := 79) rfl))
theorem b_all (T : Fac K mg) : mg "all" = none := T.free _ (T.c.fact (List.mem_of_getElem? (i := 80) rfl))
theorem b_int (T : Fac K mg) : mg "int" = none := T.free _ (T.c.fact (List.mem_of_getElem? (i := 81) rfl))
theorem b_divmod (T : Fac K mg) : mg "divmod" = none := T.free _ (T.c.fact (List.mem_of_getElem? (i := 82) rfl))
theorem b_isinstance (T : Fac K mg) : mg "isinstance" = none := T.free _ (T.c.fact (List.mem_of_getElem? (i := 83) rfl))
theorem b_enumerate (T : Fac K mg) : mg "enumerate" = none := T.free _ (T.c.fact (List.mem_of_getElem? (i := 84) rfl))
theorem b_list (T : Fac K mg) : mg "list" = none := T.free _ (T.c.fact (List.mem_of_getElem? (i := 85) rfl))
theorem b_str (T : Fac K mg) : mg "str" = none := T.free _ (T.c.fact (List.mem_of_getElem? (i := 86) rfl))
theorem b_bool (T : Fac K mg) : mg "bool" = none := T.free _ (T.c.fact (List.mem_of_getElem? (i := 87) rfl))
theorem i_MOST_OUTCOMES (T : Fac K mg) : ∃ t, mg "MOST_OUTCOMES" = some (.int 6 t) := T.int _ _ (T.c.fact (List.mem_of_getElem? (i := 88) rfl))
theorem i_MOST_NUMBER (T : Fac K mg) : ∃ t, mg "MOST_NUMBER" = some (.int 1000 t) := T.int _ _ (T.c.fact (List.mem_of_getElem? (i := 89) rfl))
theorem i_MOST_QUOTES (T : Fac K mg) : ∃ t, mg "MOST_QUOTES" = some (.int 32 t) := T.int _ _ (T.c.fact (List.mem_of_getElem? (i := 90) rfl))
theorem i_MOST_TOP (T : Fac K mg) : ∃ t, mg "MOST_TOP" = some (.int 1000000000 t) := T.int _ _ (T.c.fact (List.mem_of_getElem? (i := 91) rfl))
theorem i_MOST_BOTTOM (T : Fac K mg) : ∃ t, mg "MOST_BOTTOM" = some (.int 1000000 t) := T.int _ _ (T.c.fact (List.mem_of_getElem? (i := 92) rfl))
theorem i_MOST_PRICE_TOP (T : Fac K mg) : ∃ t, mg "MOST_PRICE_TOP" = some (.int 1000000 t) := T.int _ _ (T.c.fact (List.mem_of_getElem? (i := 93) rfl))
theorem i_MOST_PRICE_BOTTOM (T : Fac K mg) : ∃ t, mg "MOST_PRICE_BOTTOM" = some (.int 1000 t) := T.int _ _ (T.c.fact (List.mem_of_getElem? (i := 94) rfl))
abbrev s_is_integer : Stmt := (ZH.top 14)
abbrev n_is_integer : List Str := ["value"]
theorem c_is_integer : FnScope n_is_integer ["value"] (defScope s_is_integer) := ⟨rfl, rfl, rfl, by decide +kernel, rfl, by decide +kernel, by decide +kernel⟩
theorem f_is_integer (T : Fac K mg) : ∃ fd, Fun K "is_integer" "is_integer" s_is_integer (He.ga K "is_integer") fd ∧ Binds K fd ["value"] [] := by
  obtain ⟨fd, F⟩ := T.c.def_ 0
  exact ⟨fd, F, F.binds (ps := ["value"]) fun _ _ _ _ _ _ us hl => match us, hl with | [_], _ => rfl⟩
abbrev s_is_between : Stmt := (ZH.top 15)
abbrev n_is_between : List Str := ["value", "low", "high"]
theorem c_is_between : FnScope n_is_between ["value", "low", "high"] (defScope s_is_between) := ⟨rfl, rfl, rfl, by decide +kernel, rfl, by decide +kernel, by decide +kernel⟩
theorem f_is_between (T : Fac K mg) : ∃ fd, Fun K "is_between" "is_between" s_is_between (He.ga K "is_between") fd ∧ Binds K fd ["value", "low", "high"] [] := by
  obtain ⟨fd, F⟩ := T.c.def_ 1
  exact ⟨fd, F, F.binds (ps := ["value", "low", "high"]) fun _ _ _ _ _ _ us hl => match us, hl with | [_, _, _], _ => rfl⟩
abbrev s_common_divisor : Stmt := (ZH.top 18)
abbrev n_common_divisor : List Str := ["one", "other"]
theorem c_common_divisor : FnScope n_common_divisor ["one", "other"] (defScope s_common_divisor) := ⟨rfl, rfl, rfl, by decide +kernel, rfl, by decide +kernel, by decide +kernel⟩
theorem f_common_divisor (T : Fac K mg) : ∃ fd, Fun K "common_divisor" "common_divisor" s_common_divisor (He.ga K "common_divisor") fd ∧ Binds K fd ["one", "other"] [] := by
  obtain ⟨fd, F⟩ := T.c.def_ 2
  exact ⟨fd, F, F.binds (ps := ["one", "other"]) fun _ _ _ _ _ _ us hl => match us, hl with | [_, _], _ => rfl⟩
abbrev s_is_fraction : Stmt := (ZH.top 19)
abbrev n_is_fraction : List Str := ["value", "top", "bottom"]
theorem c_is_fraction : FnScope n_is_fraction ["value", "top", "bottom"] (defScope s_is_fraction) := ⟨rfl, rfl, rfl, by decide +kernel, rfl, by decide +kernel, by decide +kernel⟩
theorem f_is_fraction (T : Fac K mg) : ∃ fd, Fun K "is_fraction" "is_fraction" s_is_fraction (He.ga K "is_fraction") fd ∧ Binds K fd ["value", "top", "bottom"] [] := by
  obtain ⟨fd, F⟩ := T.c.def_ 3
  exact ⟨fd, F, F.binds (ps := ["value", "top", "bottom"]) fun _ _ _ _ _ _ us hl => match us, hl with | [_, _, _], _ => rfl⟩
abbrev s_lowest : Stmt := (ZH.top 22)
abbrev n_lowest : List Str := ["top", "bottom", "common"]
theorem c_lowest : FnScope n_lowest ["top", "bottom"] (defScope s_lowest) := ⟨rfl, rfl, rfl, by decide +kernel, rfl, by decide +kernel, by decide +kernel⟩
theorem f_lowest (T : Fac K mg) : ∃ fd, Fun K "lowest" "lowest" s_lowest (He.ga K "lowest") fd ∧ Binds K fd ["top", "bottom"] [] := by
  obtain ⟨fd, F⟩ := T.c.def_ 4
  exact ⟨fd, F, F.binds (ps := ["top", "bottom"]) fun _ _ _ _ _ _ us hl => match us, hl with | [_, _], _ => rfl⟩
abbrev s_plus : Stmt := (ZH.top 23)
abbrev n_plus : List Str := ["one", "other"]
theorem c_plus : FnScope n_plus ["one", "other"] (defScope s_plus) := ⟨rfl, rfl, rfl, by decide +kernel, rfl, by decide +kernel, by decide +kernel⟩
theorem f_plus (T : Fac K mg) : ∃ fd, Fun K "plus" "plus" s_plus (He.ga K "plus") fd ∧ Binds K fd ["one", "other"] [] := by
  obtain ⟨fd, F⟩ := T.c.def_ 5
  exact ⟨fd, F, F.binds (ps := ["one", "other"]) fun _ _ _ _ _ _ us hl => match us, hl with | [_, _], _ => rfl⟩
abbrev s_is_less : Stmt := (ZH.top 24)
abbrev n_is_less : List Str := ["one", "other"]
theorem c_is_less : FnScope n_is_less ["one", "other"] (defScope s_is_less) := ⟨rfl, rfl, rfl, by decide +kernel, rfl, by decide +kernel, by decide +kernel⟩
theorem f_is_less (T : Fac K mg) : ∃ fd, Fun K "is_less" "is_less" s_is_less (He.ga K "is_less") fd ∧ Binds K fd ["one", "other"] [] := by
  obtain ⟨fd, F⟩ := T.c.def_ 6
  exact ⟨fd, F, F.binds (ps := ["one", "other"]) fun _ _ _ _ _ _ us hl => match us, hl with | [_, _], _ => rfl⟩
abbrev s_added : Stmt := (ZH.top 25)
abbrev n_added : List Str := ["some", "total", "one"]
theorem c_added : FnScope n_added ["some"] (defScope s_added) := ⟨rfl, rfl, rfl, by decide +kernel, rfl, by decide +kernel, by decide +kernel⟩
theorem f_added (T : Fac K mg) : ∃ fd, Fun K "added" "added" s_added (He.ga K "added") fd ∧ Binds K fd ["some"] [] := by
  obtain ⟨fd, F⟩ := T.c.def_ 7
  exact ⟨fd, F, F.binds (ps := ["some"]) fun _ _ _ _ _ _ us hl => match us, hl with | [_], _ => rfl⟩
abbrev s_greater_of : Stmt := (ZH.top 26)
abbrev n_greater_of : List Str := ["one", "other"]
theorem c_greater_of : FnScope n_greater_of ["one", "other"] (defScope s_greater_of) := ⟨rfl, rfl, rfl, by decide +kernel, rfl, by decide +kernel, by decide +kernel⟩
theorem f_greater_of (T : Fac K mg) : ∃ fd, Fun K "greater_of" "greater_of" s_greater_of (He.ga K "greater_of") fd ∧ Binds K fd ["one", "other"] [] := by
  obtain ⟨fd, F⟩ := T.c.def_ 8
  exact ⟨fd, F, F.binds (ps := ["one", "other"]) fun _ _ _ _ _ _ us hl => match us, hl with | [_, _], _ => rfl⟩
abbrev s_lesser_of : Stmt := (ZH.top 27)
abbrev n_lesser_of : List Str := ["one", "other"]
theorem c_lesser_of : FnScope n_lesser_of ["one", "other"] (defScope s_lesser_of) := ⟨rfl, rfl, rfl, by decide +kernel, rfl, by decide +kernel, by decide +kernel⟩
theorem f_lesser_of (T : Fac K mg) : ∃ fd, Fun K "lesser_of" "lesser_of" s_lesser_of (He.ga K "lesser_of") fd ∧ Binds K fd ["one", "other"] [] := by
  obtain ⟨fd, F⟩ := T.c.def_ 9
  exact ⟨fd, F, F.binds (ps := ["one", "other"]) fun _ _ _ _ _ _ us hl => match us, hl with | [_, _], _ => rfl⟩
abbrev s_greatest_in : Stmt := (ZH.top 28)
abbrev n_greatest_in : List Str := ["some", "found", "one"]
theorem c_greatest_in : FnScope n_greatest_in ["some"] (defScope s_greatest_in) := ⟨rfl, rfl, rfl, by decide +kernel, rfl, by decide +kernel, by decide +kernel⟩
theorem f_greatest_in (T : Fac K mg) : ∃ fd, Fun K "greatest_in" "greatest_in" s_greatest_in (He.ga K "greatest_in") fd ∧ Binds K fd ["some"] [] := by
  obtain ⟨fd, F⟩ := T.c.def_ 10
  exact ⟨fd, F, F.binds (ps := ["some"]) fun _ _ _ _ _ _ us hl => match us, hl with | [_], _ => rfl⟩
abbrev s_least_in : Stmt := (ZH.top 29)
abbrev n_least_in : List Str := ["some", "found", "one"]
theorem c_least_in : FnScope n_least_in ["some"] (defScope s_least_in) := ⟨rfl, rfl, rfl, by decide +kernel, rfl, by decide +kernel, by decide +kernel⟩
theorem f_least_in (T : Fac K mg) : ∃ fd, Fun K "least_in" "least_in" s_least_in (He.ga K "least_in") fd ∧ Binds K fd ["some"] [] := by
  obtain ⟨fd, F⟩ := T.c.def_ 11
  exact ⟨fd, F, F.binds (ps := ["some"]) fun _ _ _ _ _ _ us hl => match us, hl with | [_], _ => rfl⟩
abbrev s_written : Stmt := (ZH.top 30)
abbrev n_written : List Str := ["fraction"]
theorem c_written : FnScope n_written ["fraction"] (defScope s_written) := ⟨rfl, rfl, rfl, by decide +kernel, rfl, by decide +kernel, by decide +kernel⟩
theorem f_written (T : Fac K mg) : ∃ fd, Fun K "written" "written" s_written (He.ga K "written") fd ∧ Binds K fd ["fraction"] [] := by
  obtain ⟨fd, F⟩ := T.c.def_ 12
  exact ⟨fd, F, F.binds (ps := ["fraction"]) fun _ _ _ _ _ _ us hl => match us, hl with | [_], _ => rfl⟩
abbrev s_Answer_init : Stmt := (inClass (ZH.top 39) 0)
abbrev n_Answer_init : List Str := ["self", "value", "numbers", "multiples"]
theorem c_Answer_init : FnScope n_Answer_init ["self", "value", "numbers", "multiples"] (defScope s_Answer_init) := ⟨rfl, rfl, rfl, by decide +kernel, rfl, by decide +kernel, by decide +kernel⟩
theorem f_Answer_init (T : Fac K mg) : ∃ fd, Fun K "__init__" "Answer.__init__" s_Answer_init (He.ma K (He.ga K "Answer") "__init__") fd ∧ Binds K fd ["self", "value", "numbers", "multiples"] [] := by
  obtain ⟨fd, F⟩ := T.c.def_ 13
  exact ⟨fd, F, F.binds (ps := ["self", "value", "numbers", "multiples"]) fun _ _ _ _ _ _ us hl => match us, hl with | [_, _, _, _], _ => rfl⟩
abbrev s_Table_init : Stmt := (inClass (ZH.top 40) 0)
abbrev n_Table_init : List Str := ["self", "rows", "bounds", "worths", "many", "size", "k", "row", "worth", "j"]
theorem c_Table_init : FnScope n_Table_init ["self", "rows", "bounds", "worths"] (defScope s_Table_init) := ⟨rfl, rfl, rfl, by decide +kernel, rfl, by decide +kernel, by decide +kernel⟩
theorem f_Table_init (T : Fac K mg) : ∃ fd, Fun K "__init__" "Table.__init__" s_Table_init (He.ma K (He.ga K "Table") "__init__") fd ∧ Binds K fd ["self", "rows", "bounds", "worths"] [] := by
  obtain ⟨fd, F⟩ := T.c.def_ 14
  exact ⟨fd, F, F.binds (ps := ["self", "rows", "bounds", "worths"]) fun _ _ _ _ _ _ us hl => match us, hl with | [_, _, _, _], _ => rfl⟩
abbrev s_Table_entering : Stmt := (inClass (ZH.top 40) 1)
abbrev n_Table_entering : List Str := ["self", "last", "place"]
theorem c_Table_entering : FnScope n_Table_entering ["self"] (defScope s_Table_entering) := ⟨rfl, rfl, rfl, by decide +kernel, rfl, by decide +kernel, by decide +kernel⟩
theorem f_Table_entering (T : Fac K mg) : ∃ fd, Fun K "entering" "Table.entering" s_Table_entering (He.ma K (He.ga K "Table") "entering") fd ∧ Binds K fd ["self"] [] := by
  obtain ⟨fd, F⟩ := T.c.def_ 15
  exact ⟨fd, F, F.binds (ps := ["self"]) fun _ _ _ _ _ _ us hl => match us, hl with | [_], _ => rfl⟩
abbrev s_Table_leaving : Stmt := (inClass (ZH.top 40) 2)
abbrev n_Table_leaving : List Str := ["self", "place", "found", "index", "step"]
theorem c_Table_leaving : FnScope n_Table_leaving ["self", "place"] (defScope s_Table_leaving) := ⟨rfl, rfl, rfl, by decide +kernel, rfl, by decide +kernel, by decide +kernel⟩
theorem f_Table_leaving (T : Fac K mg) : ∃ fd, Fun K "leaving" "Table.leaving" s_Table_leaving (He.ma K (He.ga K "Table") "leaving") fd ∧ Binds K fd ["self", "place"] [] := by
  obtain ⟨fd, F⟩ := T.c.def_ 16
  exact ⟨fd, F, F.binds (ps := ["self", "place"]) fun _ _ _ _ _ _ us hl => match us, hl with | [_, _], _ => rfl⟩
abbrev s_Table_is_ahead : Stmt := (inClass (ZH.top 40) 3)
abbrev n_Table_is_ahead : List Str := ["self", "index", "other", "place", "one", "two"]
theorem c_Table_is_ahead : FnScope n_Table_is_ahead ["self", "index", "other", "place"] (defScope s_Table_is_ahead) := ⟨rfl, rfl, rfl, by decide +kernel, rfl, by decide +kernel, by decide +kernel⟩
theorem f_Table_is_ahead (T : Fac K mg) : ∃ fd, Fun K "is_ahead" "Table.is_ahead" s_Table_is_ahead (He.ma K (He.ga K "Table") "is_ahead") fd ∧ Binds K fd ["self", "index", "other", "place"] [] := by
  obtain ⟨fd, F⟩ := T.c.def_ 17
  exact ⟨fd, F, F.binds (ps := ["self", "index", "other", "place"]) fun _ _ _ _ _ _ us hl => match us, hl with | [_, _, _, _], _ => rfl⟩
abbrev s_Table_turn : Stmt := (inClass (ZH.top 40) 4)
abbrev n_Table_turn : List Str := ["self", "index", "place", "own", "step", "other", "row", "by", "far", "near"]
theorem c_Table_turn : FnScope n_Table_turn ["self", "index", "place"] (defScope s_Table_turn) := ⟨rfl, rfl, rfl, by decide +kernel, rfl, by decide +kernel, by decide +kernel⟩
theorem f_Table_turn (T : Fac K mg) : ∃ fd, Fun K "turn" "Table.turn" s_Table_turn (He.ma K (He.ga K "Table") "turn") fd ∧ Binds K fd ["self", "index", "place"] [] := by
  obtain ⟨fd, F⟩ := T.c.def_ 18
  exact ⟨fd, F, F.binds (ps := ["self", "index", "place"]) fun _ _ _ _ _ _ us hl => match us, hl with | [_, _, _], _ => rfl⟩
abbrev s_Table_numbers_now : Stmt := (inClass (ZH.top 40) 5)
abbrev n_Table_numbers_now : List Str := ["self", "found", "index", "place"]
theorem c_Table_numbers_now : FnScope n_Table_numbers_now ["self"] (defScope s_Table_numbers_now) := ⟨rfl, rfl, rfl, by decide +kernel, rfl, by decide +kernel, by decide +kernel⟩
theorem f_Table_numbers_now (T : Fac K mg) : ∃ fd, Fun K "numbers_now" "Table.numbers_now" s_Table_numbers_now (He.ma K (He.ga K "Table") "numbers_now") fd ∧ Binds K fd ["self"] [] := by
  obtain ⟨fd, F⟩ := T.c.def_ 19
  exact ⟨fd, F, F.binds (ps := ["self"]) fun _ _ _ _ _ _ us hl => match us, hl with | [_], _ => rfl⟩
abbrev s_Table_way_of : Stmt := (inClass (ZH.top 40) 6)
abbrev n_Table_way_of : List Str := ["self", "place", "found", "index", "own"]
theorem c_Table_way_of : FnScope n_Table_way_of ["self", "place"] (defScope s_Table_way_of) := ⟨rfl, rfl, rfl, by decide +kernel, rfl, by decide +kernel, by decide +kernel⟩
theorem f_Table_way_of (T : Fac K mg) : ∃ fd, Fun K "way_of" "Table.way_of" s_Table_way_of (He.ma K (He.ga K "Table") "way_of") fd ∧ Binds K fd ["self", "place"] [] := by
  obtain ⟨fd, F⟩ := T.c.def_ 20
  exact ⟨fd, F, F.binds (ps := ["self", "place"]) fun _ _ _ _ _ _ us hl => match us, hl with | [_, _], _ => rfl⟩
abbrev s_Table_multiples_now : Stmt := (inClass (ZH.top 40) 7)
abbrev n_Table_multiples_now : List Str := ["self", "last", "k"]
theorem c_Table_multiples_now : FnScope n_Table_multiples_now ["self"] (defScope s_Table_multiples_now) := ⟨rfl, rfl, rfl, by decide +kernel, rfl, by decide +kernel, by decide +kernel⟩
theorem f_Table_multiples_now (T : Fac K mg) : ∃ fd, Fun K "multiples_now" "Table.multiples_now" s_Table_multiples_now (He.ma K (He.ga K "Table") "multiples_now") fd ∧ Binds K fd ["self"] [] := by
  obtain ⟨fd, F⟩ := T.c.def_ 21
  exact ⟨fd, F, F.binds (ps := ["self"]) fun _ _ _ _ _ _ us hl => match us, hl with | [_], _ => rfl⟩
abbrev s_greatest_sum : Stmt := (ZH.top 41)
abbrev n_greatest_sum : List Str := ["rows", "bounds", "worths", "table", "place", "index"]
theorem c_greatest_sum : FnScope n_greatest_sum ["rows", "bounds", "worths"] (defScope s_greatest_sum) := ⟨rfl, rfl, rfl, by decide +kernel, rfl, by decide +kernel, by decide +kernel⟩
theorem f_greatest_sum (T : Fac K mg) : ∃ fd, Fun K "greatest_sum" "greatest_sum" s_greatest_sum (He.ga K "greatest_sum") fd ∧ Binds K fd ["rows", "bounds", "worths"] [] := by
  obtain ⟨fd, F⟩ := T.c.def_ 22
  exact ⟨fd, F, F.binds (ps := ["rows", "bounds", "worths"]) fun _ _ _ _ _ _ us hl => match us, hl with | [_, _, _], _ => rfl⟩
abbrev s_is_payoff : Stmt := (ZH.top 43)
abbrev n_is_payoff : List Str := ["value", "outcomes", "number"]
theorem c_is_payoff : FnScope n_is_payoff ["value", "outcomes"] (defScope s_is_payoff) := ⟨rfl, rfl, rfl, by decide +kernel, rfl, by decide +kernel, by decide +kernel⟩
theorem f_is_payoff (T : Fac K mg) : ∃ fd, Fun K "is_payoff" "is_payoff" s_is_payoff (He.ga K "is_payoff") fd ∧ Binds K fd ["value", "outcomes"] [] := by
  obtain ⟨fd, F⟩ := T.c.def_ 23
  exact ⟨fd, F, F.binds (ps := ["value", "outcomes"]) fun _ _ _ _ _ _ us hl => match us, hl with | [_, _], _ => rfl⟩
abbrev s_is_price : Stmt := (ZH.top 44)
abbrev n_is_price : List Str := ["value"]
theorem c_is_price : FnScope n_is_price ["value"] (defScope s_is_price) := ⟨rfl, rfl, rfl, by decide +kernel, rfl, by decide +kernel, by decide +kernel⟩
theorem f_is_price (T : Fac K mg) : ∃ fd, Fun K "is_price" "is_price" s_is_price (He.ga K "is_price") fd ∧ Binds K fd ["value"] [] := by
  obtain ⟨fd, F⟩ := T.c.def_ 24
  exact ⟨fd, F, F.binds (ps := ["value"]) fun _ _ _ _ _ _ us hl => match us, hl with | [_], _ => rfl⟩
abbrev s_is_quote : Stmt := (ZH.top 45)
abbrev n_is_quote : List Str := ["value", "outcomes"]
theorem c_is_quote : FnScope n_is_quote ["value", "outcomes"] (defScope s_is_quote) := ⟨rfl, rfl, rfl, by decide +kernel, rfl, by decide +kernel, by decide +kernel⟩
theorem f_is_quote (T : Fac K mg) : ∃ fd, Fun K "is_quote" "is_quote" s_is_quote (He.ga K "is_quote") fd ∧ Binds K fd ["value", "outcomes"] [] := by
  obtain ⟨fd, F⟩ := T.c.def_ 25
  exact ⟨fd, F, F.binds (ps := ["value", "outcomes"]) fun _ _ _ _ _ _ us hl => match us, hl with | [_, _], _ => rfl⟩
abbrev s_check_quotes : Stmt := (ZH.top 46)
abbrev n_check_quotes : List Str := ["quotes", "outcomes", "index", "quote"]
theorem c_check_quotes : FnScope n_check_quotes ["quotes", "outcomes"] (defScope s_check_quotes) := ⟨rfl, rfl, rfl, by decide +kernel, rfl, by decide +kernel, by decide +kernel⟩
theorem f_check_quotes (T : Fac K mg) : ∃ fd, Fun K "check_quotes" "check_quotes" s_check_quotes (He.ga K "check_quotes") fd ∧ Binds K fd ["quotes", "outcomes"] [] := by
  obtain ⟨fd, F⟩ := T.c.def_ 26
  exact ⟨fd, F, F.binds (ps := ["quotes", "outcomes"]) fun _ _ _ _ _ _ us hl => match us, hl with | [_, _], _ => rfl⟩
abbrev s_quote_text : Stmt := (ZH.top 47)
abbrev n_quote_text : List Str := ["quote", "number"]
theorem c_quote_text : FnScope n_quote_text ["quote"] (defScope s_quote_text) := ⟨rfl, rfl, rfl, by decide +kernel, rfl, by decide +kernel, by decide +kernel⟩
theorem f_quote_text (T : Fac K mg) : ∃ fd, Fun K "quote_text" "quote_text" s_quote_text (He.ga K "quote_text") fd ∧ Binds K fd ["quote"] [] := by
  obtain ⟨fd, F⟩ := T.c.def_ 27
  exact ⟨fd, F, F.binds (ps := ["quote"]) fun _ _ _ _ _ _ us hl => match us, hl with | [_], _ => rfl⟩
abbrev s_check_payoff : Stmt := (ZH.top 49)
abbrev n_check_payoff : List Str := ["value", "outcomes"]
theorem c_check_payoff : FnScope n_check_payoff ["value", "outcomes"] (defScope s_check_payoff) := ⟨rfl, rfl, rfl, by decide +kernel, rfl, by decide +kernel, by decide +kernel⟩
theorem f_check_payoff (T : Fac K mg) : ∃ fd, Fun K "check_payoff" "check_payoff" s_check_payoff (He.ga K "check_payoff") fd ∧ Binds K fd ["value", "outcomes"] [] := by
  obtain ⟨fd, F⟩ := T.c.def_ 28
  exact ⟨fd, F, F.binds (ps := ["value", "outcomes"]) fun _ _ _ _ _ _ us hl => match us, hl with | [_, _], _ => rfl⟩
abbrev s_Book_init : Stmt := (inClass (ZH.top 50) 0)
abbrev n_Book_init : List Str := ["self", "outcomes", "quotes", "quote"]
theorem c_Book_init : FnScope n_Book_init ["self", "outcomes", "quotes"] (defScope s_Book_init) := ⟨rfl, rfl, rfl, by decide +kernel, rfl, by decide +kernel, by decide +kernel⟩
theorem f_Book_init (T : Fac K mg) : ∃ fd, Fun K "__init__" "Book.__init__" s_Book_init (He.ma K (He.ga K "Book") "__init__") fd ∧ Binds K fd ["self", "outcomes", "quotes"] [] := by
  obtain ⟨fd, F⟩ := T.c.def_ 29
  exact ⟨fd, F, F.binds (ps := ["self", "outcomes", "quotes"]) fun _ _ _ _ _ _ us hl => match us, hl with | [_, _, _], _ => rfl⟩
abbrev s_Book_outcomes : Stmt := (inClass (ZH.top 50) 2)
abbrev n_Book_outcomes : List Str := ["self"]
theorem c_Book_outcomes : FnScope n_Book_outcomes ["self"] (defScope s_Book_outcomes) := ⟨rfl, rfl, rfl, by decide +kernel, rfl, by decide +kernel, by decide +kernel⟩
theorem f_Book_outcomes (T : Fac K mg) : ∃ fd, Fun K "outcomes" "Book.outcomes" s_Book_outcomes (ZH.pg K "Book" "outcomes") fd ∧ Binds K fd ["self"] [] := by
  obtain ⟨fd, F⟩ := T.c.def_ 30
  exact ⟨fd, F, F.binds (ps := ["self"]) fun _ _ _ _ _ _ us hl => match us, hl with | [_], _ => rfl⟩
abbrev s_Book_quotes : Stmt := (inClass (ZH.top 50) 3)
abbrev n_Book_quotes : List Str := ["self"]
theorem c_Book_quotes : FnScope n_Book_quotes ["self"] (defScope s_Book_quotes) := ⟨rfl, rfl, rfl, by decide +kernel, rfl, by decide +kernel, by decide +kernel⟩
theorem f_Book_quotes (T : Fac K mg) : ∃ fd, Fun K "quotes" "Book.quotes" s_Book_quotes (ZH.pg K "Book" "quotes") fd ∧ Binds K fd ["self"] [] := by
  obtain ⟨fd, F⟩ := T.c.def_ 31
  exact ⟨fd, F, F.binds (ps := ["self"]) fun _ _ _ _ _ _ us hl => match us, hl with | [_], _ => rfl⟩
abbrev s_less_one : Stmt := (ZH.top 51)
abbrev n_less_one : List Str := ["book", "index"]
theorem c_less_one : FnScope n_less_one ["book", "index"] (defScope s_less_one) := ⟨rfl, rfl, rfl, by decide +kernel, rfl, by decide +kernel, by decide +kernel⟩
theorem f_less_one (T : Fac K mg) : ∃ fd, Fun K "less_one" "less_one" s_less_one (He.ga K "less_one") fd ∧ Binds K fd ["book", "index"] [] := by
  obtain ⟨fd, F⟩ := T.c.def_ 32
  exact ⟨fd, F, F.binds (ps := ["book", "index"]) fun _ _ _ _ _ _ us hl => match us, hl with | [_, _], _ => rfl⟩
abbrev s_check_book : Stmt := (ZH.top 53)
abbrev n_check_book : List Str := ["value"]
theorem c_check_book : FnScope n_check_book ["value"] (defScope s_check_book) := ⟨rfl, rfl, rfl, by decide +kernel, rfl, by decide +kernel, by decide +kernel⟩
theorem f_check_book (T : Fac K mg) : ∃ fd, Fun K "check_book" "check_book" s_check_book (He.ga K "check_book") fd ∧ Binds K fd ["value"] [] := by
  obtain ⟨fd, F⟩ := T.c.def_ 33
  exact ⟨fd, F, F.binds (ps := ["value"]) fun _ _ _ _ _ _ us hl => match us, hl with | [_], _ => rfl⟩
abbrev s_is_share : Stmt := (ZH.top 54)
abbrev n_is_share : List Str := ["value"]
theorem c_is_share : FnScope n_is_share ["value"] (defScope s_is_share) := ⟨rfl, rfl, rfl, by decide +kernel, rfl, by decide +kernel, by decide +kernel⟩
theorem f_is_share (T : Fac K mg) : ∃ fd, Fun K "is_share" "is_share" s_is_share (He.ga K "is_share") fd ∧ Binds K fd ["value"] [] := by
  obtain ⟨fd, F⟩ := T.c.def_ 34
  exact ⟨fd, F, F.binds (ps := ["value"]) fun _ _ _ _ _ _ us hl => match us, hl with | [_], _ => rfl⟩
abbrev s_check_chance : Stmt := (ZH.top 55)
abbrev n_check_chance : List Str := ["value", "outcomes", "total", "index", "part"]
theorem c_check_chance : FnScope n_check_chance ["value", "outcomes"] (defScope s_check_chance) := ⟨rfl, rfl, rfl, by decide +kernel, rfl, by decide +kernel, by decide +kernel⟩
theorem f_check_chance (T : Fac K mg) : ∃ fd, Fun K "check_chance" "check_chance" s_check_chance (He.ga K "check_chance") fd ∧ Binds K fd ["value", "outcomes"] [] := by
  obtain ⟨fd, F⟩ := T.c.def_ 35
  exact ⟨fd, F, F.binds (ps := ["value", "outcomes"]) fun _ _ _ _ _ _ us hl => match us, hl with | [_, _], _ => rfl⟩
abbrev s_worth_at : Stmt := (ZH.top 56)
abbrev n_worth_at : List Str := ["payoff", "chance", "number", "top", "bottom"]
theorem c_worth_at : FnScope n_worth_at ["payoff", "chance"] (defScope s_worth_at) := ⟨rfl, rfl, rfl, by decide +kernel, rfl, by decide +kernel, by decide +kernel⟩
theorem f_worth_at (T : Fac K mg) : ∃ fd, Fun K "worth_at" "worth_at" s_worth_at (He.ga K "worth_at") fd ∧ Binds K fd ["payoff", "chance"] [] := by
  obtain ⟨fd, F⟩ := T.c.def_ 36
  exact ⟨fd, F, F.binds (ps := ["payoff", "chance"]) fun _ _ _ _ _ _ us hl => match us, hl with | [_, _], _ => rfl⟩
abbrev s_gain_rows : Stmt := (ZH.top 57)
abbrev n_gain_rows : List Str := ["book", "rows", "place", "payoff", "price"]
theorem c_gain_rows : FnScope n_gain_rows ["book"] (defScope s_gain_rows) := ⟨rfl, rfl, rfl, by decide +kernel, rfl, by decide +kernel, by decide +kernel⟩
theorem f_gain_rows (T : Fac K mg) : ∃ fd, Fun K "gain_rows" "gain_rows" s_gain_rows (He.ga K "gain_rows") fd ∧ Binds K fd ["book"] [] := by
  obtain ⟨fd, F⟩ := T.c.def_ 37
  exact ⟨fd, F, F.binds (ps := ["book"]) fun _ _ _ _ _ _ us hl => match us, hl with | [_], _ => rfl⟩
abbrev s_least_answer : Stmt := (ZH.top 58)
abbrev n_least_answer : List Str := ["book", "payoff", "low", "rows", "gains", "number"]
theorem c_least_answer : FnScope n_least_answer ["book", "payoff"] (defScope s_least_answer) := ⟨rfl, rfl, rfl, by decide +kernel, rfl, by decide +kernel, by decide +kernel⟩
theorem f_least_answer (T : Fac K mg) : ∃ fd, Fun K "least_answer" "least_answer" s_least_answer (He.ga K "least_answer") fd ∧ Binds K fd ["book", "payoff"] [] := by
  obtain ⟨fd, F⟩ := T.c.def_ 38
  exact ⟨fd, F, F.binds (ps := ["book", "payoff"]) fun _ _ _ _ _ _ us hl => match us, hl with | [_, _], _ => rfl⟩
abbrev s_plain_answer : Stmt := (ZH.top 59)
abbrev n_plain_answer : List Str := ["book"]
theorem c_plain_answer : FnScope n_plain_answer ["book"] (defScope s_plain_answer) := ⟨rfl, rfl, rfl, by decide +kernel, rfl, by decide +kernel, by decide +kernel⟩
theorem f_plain_answer (T : Fac K mg) : ∃ fd, Fun K "plain_answer" "plain_answer" s_plain_answer (He.ga K "plain_answer") fd ∧ Binds K fd ["book"] [] := by
  obtain ⟨fd, F⟩ := T.c.def_ 39
  exact ⟨fd, F, F.binds (ps := ["book"]) fun _ _ _ _ _ _ us hl => match us, hl with | [_], _ => rfl⟩
abbrev s_is_kept_by_some : Stmt := (ZH.top 60)
abbrev n_is_kept_by_some : List Str := ["book"]
theorem c_is_kept_by_some : FnScope n_is_kept_by_some ["book"] (defScope s_is_kept_by_some) := ⟨rfl, rfl, rfl, by decide +kernel, rfl, by decide +kernel, by decide +kernel⟩
theorem f_is_kept_by_some (T : Fac K mg) : ∃ fd, Fun K "is_kept_by_some" "is_kept_by_some" s_is_kept_by_some (He.ga K "is_kept_by_some") fd ∧ Binds K fd ["book"] [] := by
  obtain ⟨fd, F⟩ := T.c.def_ 40
  exact ⟨fd, F, F.binds (ps := ["book"]) fun _ _ _ _ _ _ us hl => match us, hl with | [_], _ => rfl⟩
abbrev s_check_sound : Stmt := (ZH.top 61)
abbrev n_check_sound : List Str := ["book"]
theorem c_check_sound : FnScope n_check_sound ["book"] (defScope s_check_sound) := ⟨rfl, rfl, rfl, by decide +kernel, rfl, by decide +kernel, by decide +kernel⟩
theorem f_check_sound (T : Fac K mg) : ∃ fd, Fun K "check_sound" "check_sound" s_check_sound (He.ga K "check_sound") fd ∧ Binds K fd ["book"] [] := by
  obtain ⟨fd, F⟩ := T.c.def_ 41
  exact ⟨fd, F, F.binds (ps := ["book"]) fun _ _ _ _ _ _ us hl => match us, hl with | [_], _ => rfl⟩
abbrev s_is_sound : Stmt := (ZH.top 62)
abbrev n_is_sound : List Str := ["book"]
theorem c_is_sound : FnScope n_is_sound ["book"] (defScope s_is_sound) := ⟨rfl, rfl, rfl, by decide +kernel, rfl, by decide +kernel, by decide +kernel⟩
theorem f_is_sound (T : Fac K mg) : ∃ fd, Fun K "is_sound" "is_sound" s_is_sound (He.ga K "is_sound") fd ∧ Binds K fd ["book"] [] := by
  obtain ⟨fd, F⟩ := T.c.def_ 42
  exact ⟨fd, F, F.binds (ps := ["book"]) fun _ _ _ _ _ _ us hl => match us, hl with | [_], _ => rfl⟩
abbrev s_least_by : Stmt := (ZH.top 64)
abbrev n_least_by : List Str := ["book", "payoff"]
theorem c_least_by : FnScope n_least_by ["book", "payoff"] (defScope s_least_by) := ⟨rfl, rfl, rfl, by decide +kernel, rfl, by decide +kernel, by decide +kernel⟩
theorem f_least_by (T : Fac K mg) : ∃ fd, Fun K "least_by" "least_by" s_least_by (He.ga K "least_by") fd ∧ Binds K fd ["book", "payoff"] [] := by
  obtain ⟨fd, F⟩ := T.c.def_ 43
  exact ⟨fd, F, F.binds (ps := ["book", "payoff"]) fun _ _ _ _ _ _ us hl => match us, hl with | [_, _], _ => rfl⟩
abbrev s_greatest_by : Stmt := (ZH.top 65)
abbrev n_greatest_by : List Str := ["book", "payoff", "top", "bottom"]
theorem c_greatest_by : FnScope n_greatest_by ["book", "payoff"] (defScope s_greatest_by) := ⟨rfl, rfl, rfl, by decide +kernel, rfl, by decide +kernel, by decide +kernel⟩
theorem f_greatest_by (T : Fac K mg) : ∃ fd, Fun K "greatest_by" "greatest_by" s_greatest_by (He.ga K "greatest_by") fd ∧ Binds K fd ["book", "payoff"] [] := by
  obtain ⟨fd, F⟩ := T.c.def_ 44
  exact ⟨fd, F, F.binds (ps := ["book", "payoff"]) fun _ _ _ _ _ _ us hl => match us, hl with | [_, _], _ => rfl⟩
abbrev s_turned : Stmt := (ZH.top 66)
abbrev n_turned : List Str := ["payoff", "number"]
theorem c_turned : FnScope n_turned ["payoff"] (defScope s_turned) := ⟨rfl, rfl, rfl, by decide +kernel, rfl, by decide +kernel, by decide +kernel⟩
theorem f_turned (T : Fac K mg) : ∃ fd, Fun K "turned" "turned" s_turned (He.ga K "turned") fd ∧ Binds K fd ["payoff"] [] := by
  obtain ⟨fd, F⟩ := T.c.def_ 45
  exact ⟨fd, F, F.binds (ps := ["payoff"]) fun _ _ _ _ _ _ us hl => match us, hl with | [_], _ => rfl⟩
abbrev s_check_asked : Stmt := (ZH.top 67)
abbrev n_check_asked : List Str := ["book", "payoff"]
theorem c_check_asked : FnScope n_check_asked ["book", "payoff"] (defScope s_check_asked) := ⟨rfl, rfl, rfl, by decide +kernel, rfl, by decide +kernel, by decide +kernel⟩
theorem f_check_asked (T : Fac K mg) : ∃ fd, Fun K "check_asked" "check_asked" s_check_asked (He.ga K "check_asked") fd ∧ Binds K fd ["book", "payoff"] [] := by
  obtain ⟨fd, F⟩ := T.c.def_ 46
  exact ⟨fd, F, F.binds (ps := ["book", "payoff"]) fun _ _ _ _ _ _ us hl => match us, hl with | [_, _], _ => rfl⟩
abbrev s_least_worth : Stmt := (ZH.top 68)
abbrev n_least_worth : List Str := ["book", "payoff"]
theorem c_least_worth : FnScope n_least_worth ["book", "payoff"] (defScope s_least_worth) := ⟨rfl, rfl, rfl, by decide +kernel, rfl, by decide +kernel, by decide +kernel⟩
theorem f_least_worth (T : Fac K mg) : ∃ fd, Fun K "least_worth" "least_worth" s_least_worth (He.ga K "least_worth") fd ∧ Binds K fd ["book", "payoff"] [] := by
  obtain ⟨fd, F⟩ := T.c.def_ 47
  exact ⟨fd, F, F.binds (ps := ["book", "payoff"]) fun _ _ _ _ _ _ us hl => match us, hl with | [_, _], _ => rfl⟩
abbrev s_but_one : Stmt := (ZH.top 70)
abbrev n_but_one : List Str := ["book", "some", "found", "index", "each"]
theorem c_but_one : FnScope n_but_one ["book"] (defScope s_but_one) := ⟨rfl, rfl, rfl, by decide +kernel, rfl, by decide +kernel, by decide +kernel⟩
theorem f_but_one (T : Fac K mg) : ∃ fd, Fun K "but_one" "but_one" s_but_one (He.ga K "but_one") fd ∧ Binds K fd ["book"] [] := by
  obtain ⟨fd, F⟩ := T.c.def_ 48
  exact ⟨fd, F, F.binds (ps := ["book"]) fun _ _ _ _ _ _ us hl => match us, hl with | [_], _ => rfl⟩
abbrev s_least_but_one : Stmt := (ZH.top 71)
abbrev n_least_but_one : List Str := ["book", "payoff", "each"]
theorem c_least_but_one : FnScope n_least_but_one ["book", "payoff"] (defScope s_least_but_one) := ⟨rfl, rfl, rfl, by decide +kernel, rfl, by decide +kernel, by decide +kernel⟩
theorem f_least_but_one (T : Fac K mg) : ∃ fd, Fun K "least_but_one" "least_but_one" s_least_but_one (He.ga K "least_but_one") fd ∧ Binds K fd ["book", "payoff"] [] := by
  obtain ⟨fd, F⟩ := T.c.def_ 49
  exact ⟨fd, F, F.binds (ps := ["book", "payoff"]) fun _ _ _ _ _ _ us hl => match us, hl with | [_, _], _ => rfl⟩
abbrev s_greatest_but_one : Stmt := (ZH.top 72)
abbrev n_greatest_but_one : List Str := ["book", "payoff", "each"]
theorem c_greatest_but_one : FnScope n_greatest_but_one ["book", "payoff"] (defScope s_greatest_but_one) := ⟨rfl, rfl, rfl, by decide +kernel, rfl, by decide +kernel, by decide +kernel⟩
theorem f_greatest_but_one (T : Fac K mg) : ∃ fd, Fun K "greatest_but_one" "greatest_but_one" s_greatest_but_one (He.ga K "greatest_but_one") fd ∧ Binds K fd ["book", "payoff"] [] := by
  obtain ⟨fd, F⟩ := T.c.def_ 50
  exact ⟨fd, F, F.binds (ps := ["book", "payoff"]) fun _ _ _ _ _ _ us hl => match us, hl with | [_, _], _ => rfl⟩
abbrev s_is_left : Stmt := (ZH.top 73)
abbrev n_is_left : List Str := ["book", "chance", "payoff", "price"]
theorem c_is_left : FnScope n_is_left ["book", "chance"] (defScope s_is_left) := ⟨rfl, rfl, rfl, by decide +kernel, rfl, by decide +kernel, by decide +kernel⟩
theorem f_is_left (T : Fac K mg) : ∃ fd, Fun K "is_left" "is_left" s_is_left (He.ga K "is_left") fd ∧ Binds K fd ["book", "chance"] [] := by
  obtain ⟨fd, F⟩ := T.c.def_ 51
  exact ⟨fd, F, F.binds (ps := ["book", "chance"]) fun _ _ _ _ _ _ us hl => match us, hl with | [_, _], _ => rfl⟩
abbrev s_culprits : Stmt := (ZH.top 75)
abbrev n_culprits : List Str := ["book", "index"]
theorem c_culprits : FnScope n_culprits ["book"] (defScope s_culprits) := ⟨rfl, rfl, rfl, by decide +kernel, rfl, by decide +kernel, by decide +kernel⟩
theorem f_culprits (T : Fac K mg) : ∃ fd, Fun K "culprits" "culprits" s_culprits (He.ga K "culprits") fd ∧ Binds K fd ["book"] [] := by
  obtain ⟨fd, F⟩ := T.c.def_ 52
  exact ⟨fd, F, F.binds (ps := ["book"]) fun _ _ _ _ _ _ us hl => match us, hl with | [_], _ => rfl⟩
abbrev s_Ljar : Stmt := (ZH.top 77)
abbrev n_Ljar : List Str := ["_law_cells", "_law_turn", "_law_cell", "_law_mixed", "_law_each"]
theorem c_Ljar : FnScope n_Ljar ["_law_cells", "_law_turn"] (defScope s_Ljar) := ⟨rfl, rfl, rfl, by decide +kernel, rfl, by decide +kernel, by decide +kernel⟩
theorem f_Ljar (T : Fac K mg) : ∃ fd, Fun K "_law_jar" "_law_jar" s_Ljar (He.ga K "_law_jar") fd ∧ Binds K fd ["_law_cells", "_law_turn"] [] := by
  obtain ⟨fd, F⟩ := T.c.def_ 53
  exact ⟨fd, F, F.binds (ps := ["_law_cells", "_law_turn"]) fun _ _ _ _ _ _ us hl => match us, hl with | [_, _], _ => rfl⟩
abbrev s_Ldip : Stmt := (ZH.top 78)
abbrev n_Ldip : List Str := ["_law_jar_here", "_law_top", "_law_digit"]
theorem c_Ldip : FnScope n_Ldip ["_law_jar_here", "_law_top"] (defScope s_Ldip) := ⟨rfl, rfl, rfl, by decide +kernel, rfl, by decide +kernel, by decide +kernel⟩
theorem f_Ldip (T : Fac K mg) : ∃ fd, Fun K "_law_dip" "_law_dip" s_Ldip (He.ga K "_law_dip") fd ∧ Binds K fd ["_law_jar_here", "_law_top"] [] := by
  obtain ⟨fd, F⟩ := T.c.def_ 54
  exact ⟨fd, F, F.binds (ps := ["_law_jar_here", "_law_top"]) fun _ _ _ _ _ _ us hl => match us, hl with | [_, _], _ => rfl⟩
abbrev s_Lone_of : Stmt := (ZH.top 79)
abbrev n_Lone_of : List Str := ["_law_jar_here", "_law_some"]
theorem c_Lone_of : FnScope n_Lone_of ["_law_jar_here", "_law_some"] (defScope s_Lone_of) := ⟨rfl, rfl, rfl, by decide +kernel, rfl, by decide +kernel, by decide +kernel⟩
theorem f_Lone_of (T : Fac K mg) : ∃ fd, Fun K "_law_one_of" "_law_one_of" s_Lone_of (He.ga K "_law_one_of") fd ∧ Binds K fd ["_law_jar_here", "_law_some"] [] := by
  obtain ⟨fd, F⟩ := T.c.def_ 55
  exact ⟨fd, F, F.binds (ps := ["_law_jar_here", "_law_some"]) fun _ _ _ _ _ _ us hl => match us, hl with | [_, _], _ => rfl⟩
abbrev s_Lcommon : Stmt := (ZH.top 80)
abbrev n_Lcommon : List Str := ["_law_a", "_law_b"]
theorem c_Lcommon : FnScope n_Lcommon ["_law_a", "_law_b"] (defScope s_Lcommon) := ⟨rfl, rfl, rfl, by decide +kernel, rfl, by decide +kernel, by decide +kernel⟩
theorem f_Lcommon (T : Fac K mg) : ∃ fd, Fun K "_law_common" "_law_common" s_Lcommon (He.ga K "_law_common") fd ∧ Binds K fd ["_law_a", "_law_b"] [] := by
  obtain ⟨fd, F⟩ := T.c.def_ 56
  exact ⟨fd, F, F.binds (ps := ["_law_a", "_law_b"]) fun _ _ _ _ _ _ us hl => match us, hl with | [_, _], _ => rfl⟩
abbrev s_Llow : Stmt := (ZH.top 81)
abbrev n_Llow : List Str := ["_law_top", "_law_bottom", "_law_common_here"]
theorem c_Llow : FnScope n_Llow ["_law_top", "_law_bottom"] (defScope s_Llow) := ⟨rfl, rfl, rfl, by decide +kernel, rfl, by decide +kernel, by decide +kernel⟩
theorem f_Llow (T : Fac K mg) : ∃ fd, Fun K "_law_low" "_law_low" s_Llow (He.ga K "_law_low") fd ∧ Binds K fd ["_law_top", "_law_bottom"] [] := by
  obtain ⟨fd, F⟩ := T.c.def_ 57
  exact ⟨fd, F, F.binds (ps := ["_law_top", "_law_bottom"]) fun _ _ _ _ _ _ us hl => match us, hl with | [_, _], _ => rfl⟩
abbrev s_Lplus : Stmt := (ZH.top 82)
abbrev n_Lplus : List Str := ["_law_one", "_law_two"]
theorem c_Lplus : FnScope n_Lplus ["_law_one", "_law_two"] (defScope s_Lplus) := ⟨rfl, rfl, rfl, by decide +kernel, rfl, by decide +kernel, by decide +kernel⟩
theorem f_Lplus (T : Fac K mg) : ∃ fd, Fun K "_law_plus" "_law_plus" s_Lplus (He.ga K "_law_plus") fd ∧ Binds K fd ["_law_one", "_law_two"] [] := by
  obtain ⟨fd, F⟩ := T.c.def_ 58
  exact ⟨fd, F, F.binds (ps := ["_law_one", "_law_two"]) fun _ _ _ _ _ _ us hl => match us, hl with | [_, _], _ => rfl⟩
abbrev s_Ltimes : Stmt := (ZH.top 83)
abbrev n_Ltimes : List Str := ["_law_one", "_law_two"]
theorem c_Ltimes : FnScope n_Ltimes ["_law_one", "_law_two"] (defScope s_Ltimes) := ⟨rfl, rfl, rfl, by decide +kernel, rfl, by decide +kernel, by decide +kernel⟩
theorem f_Ltimes (T : Fac K mg) : ∃ fd, Fun K "_law_times" "_law_times" s_Ltimes (He.ga K "_law_times") fd ∧ Binds K fd ["_law_one", "_law_two"] [] := by
  obtain ⟨fd, F⟩ := T.c.def_ 59
  exact ⟨fd, F, F.binds (ps := ["_law_one", "_law_two"]) fun _ _ _ _ _ _ us hl => match us, hl with | [_, _], _ => rfl⟩
abbrev s_Lless : Stmt := (ZH.top 84)
abbrev n_Lless : List Str := ["_law_one", "_law_two"]
theorem c_Lless : FnScope n_Lless ["_law_one", "_law_two"] (defScope s_Lless) := ⟨rfl, rfl, rfl, by decide +kernel, rfl, by decide +kernel, by decide +kernel⟩
theorem f_Lless (T : Fac K mg) : ∃ fd, Fun K "_law_less" "_law_less" s_Lless (He.ga K "_law_less") fd ∧ Binds K fd ["_law_one", "_law_two"] [] := by
  obtain ⟨fd, F⟩ := T.c.def_ 60
  exact ⟨fd, F, F.binds (ps := ["_law_one", "_law_two"]) fun _ _ _ _ _ _ us hl => match us, hl with | [_, _], _ => rfl⟩
abbrev s_Lleast : Stmt := (ZH.top 85)
abbrev n_Lleast : List Str := ["_law_some", "_law_found", "_law_each"]
theorem c_Lleast : FnScope n_Lleast ["_law_some"] (defScope s_Lleast) := ⟨rfl, rfl, rfl, by decide +kernel, rfl, by decide +kernel, by decide +kernel⟩
theorem f_Lleast (T : Fac K mg) : ∃ fd, Fun K "_law_least" "_law_least" s_Lleast (He.ga K "_law_least") fd ∧ Binds K fd ["_law_some"] [] := by
  obtain ⟨fd, F⟩ := T.c.def_ 61
  exact ⟨fd, F, F.binds (ps := ["_law_some"]) fun _ _ _ _ _ _ us hl => match us, hl with | [_], _ => rfl⟩
abbrev s_Lminus : Stmt := (ZH.top 86)
abbrev n_Lminus : List Str := ["_law_one"]
theorem c_Lminus : FnScope n_Lminus ["_law_one"] (defScope s_Lminus) := ⟨rfl, rfl, rfl, by decide +kernel, rfl, by decide +kernel, by decide +kernel⟩
theorem f_Lminus (T : Fac K mg) : ∃ fd, Fun K "_law_minus" "_law_minus" s_Lminus (He.ga K "_law_minus") fd ∧ Binds K fd ["_law_one"] [] := by
  obtain ⟨fd, F⟩ := T.c.def_ 62
  exact ⟨fd, F, F.binds (ps := ["_law_one"]) fun _ _ _ _ _ _ us hl => match us, hl with | [_], _ => rfl⟩
abbrev s_Lworth : Stmt := (ZH.top 87)
abbrev n_Lworth : List Str := ["_law_payoff_here", "_law_chance_here", "_law_found", "_law_k"]
theorem c_Lworth : FnScope n_Lworth ["_law_payoff_here", "_law_chance_here"] (defScope s_Lworth) := ⟨rfl, rfl, rfl, by decide +kernel, rfl, by decide +kernel, by decide +kernel⟩
theorem f_Lworth (T : Fac K mg) : ∃ fd, Fun K "_law_worth" "_law_worth" s_Lworth (He.ga K "_law_worth") fd ∧ Binds K fd ["_law_payoff_here", "_law_chance_here"] [] := by
  obtain ⟨fd, F⟩ := T.c.def_ 63
  exact ⟨fd, F, F.binds (ps := ["_law_payoff_here", "_law_chance_here"]) fun _ _ _ _ _ _ us hl => match us, hl with | [_, _], _ => rfl⟩
abbrev s_Lpayoff : Stmt := (ZH.top 88)
abbrev n_Lpayoff : List Str := ["_law_jar_here", "_law_size", "_law_top", "_law_k"]
theorem c_Lpayoff : FnScope n_Lpayoff ["_law_jar_here", "_law_size", "_law_top"] (defScope s_Lpayoff) := ⟨rfl, rfl, rfl, by decide +kernel, rfl, by decide +kernel, by decide +kernel⟩
theorem f_Lpayoff (T : Fac K mg) : ∃ fd, Fun K "_law_payoff" "_law_payoff" s_Lpayoff (He.ga K "_law_payoff") fd ∧ Binds K fd ["_law_jar_here", "_law_size", "_law_top"] [] := by
  obtain ⟨fd, F⟩ := T.c.def_ 64
  exact ⟨fd, F, F.binds (ps := ["_law_jar_here", "_law_size", "_law_top"]) fun _ _ _ _ _ _ us hl => match us, hl with | [_, _, _], _ => rfl⟩
abbrev s_Lchance : Stmt := (ZH.top 89)
abbrev n_Lchance : List Str := ["_law_jar_here", "_law_size", "_law_parts_here", "_law_whole", "_law_k", "_law_each"]
theorem c_Lchance : FnScope n_Lchance ["_law_jar_here", "_law_size"] (defScope s_Lchance) := ⟨rfl, rfl, rfl, by decide +kernel, rfl, by decide +kernel, by decide +kernel⟩
theorem f_Lchance (T : Fac K mg) : ∃ fd, Fun K "_law_chance" "_law_chance" s_Lchance (He.ga K "_law_chance") fd ∧ Binds K fd ["_law_jar_here", "_law_size"] [] := by
  obtain ⟨fd, F⟩ := T.c.def_ 65
  exact ⟨fd, F, F.binds (ps := ["_law_jar_here", "_law_size"]) fun _ _ _ _ _ _ us hl => match us, hl with | [_, _], _ => rfl⟩
abbrev s_Lquotes : Stmt := (ZH.top 90)
abbrev n_Lquotes : List Str := ["_law_jar_here", "_law_size", "_law_many", "_law_slack", "_law_middle", "_law_found", "_law_turn", "_law_payoff_here", "_law_top", "_law_bottom", "_law_less_here"]
theorem c_Lquotes : FnScope n_Lquotes ["_law_jar_here", "_law_size", "_law_many", "_law_slack"] (defScope s_Lquotes) := ⟨rfl, rfl, rfl, by decide +kernel, rfl, by decide +kernel, by decide +kernel⟩
theorem f_Lquotes (T : Fac K mg) : ∃ fd, Fun K "_law_quotes" "_law_quotes" s_Lquotes (He.ga K "_law_quotes") fd ∧ Binds K fd ["_law_jar_here", "_law_size", "_law_many", "_law_slack"] [] := by
  obtain ⟨fd, F⟩ := T.c.def_ 66
  exact ⟨fd, F, F.binds (ps := ["_law_jar_here", "_law_size", "_law_many", "_law_slack"]) fun _ _ _ _ _ _ us hl => match us, hl with | [_, _, _, _], _ => rfl⟩
abbrev s_Lrows : Stmt := (ZH.top 91)
abbrev n_Lrows : List Str := ["_law_size", "_law_quotes_here", "_law_found", "_law_payoff_here", "_law_price_here", "_law_j", "_law_k", "_law_number_here"]
theorem c_Lrows : FnScope n_Lrows ["_law_size", "_law_quotes_here"] (defScope s_Lrows) := ⟨rfl, rfl, rfl, by decide +kernel, rfl, by decide +kernel, by decide +kernel⟩
theorem f_Lrows (T : Fac K mg) : ∃ fd, Fun K "_law_rows" "_law_rows" s_Lrows (He.ga K "_law_rows") fd ∧ Binds K fd ["_law_size", "_law_quotes_here"] [] := by
  obtain ⟨fd, F⟩ := T.c.def_ 67
  exact ⟨fd, F, F.binds (ps := ["_law_size", "_law_quotes_here"]) fun _ _ _ _ _ _ us hl => match us, hl with | [_, _], _ => rfl⟩
abbrev s_Ldet : Stmt := (ZH.top 92)
abbrev n_Ldet : List Str := ["_law_table", "_law_found", "_law_sign", "_law_k", "_law_rest", "_law_row"]
theorem c_Ldet : FnScope n_Ldet ["_law_table"] (defScope s_Ldet) := ⟨rfl, rfl, rfl, by decide +kernel, rfl, by decide +kernel, by decide +kernel⟩
theorem f_Ldet (T : Fac K mg) : ∃ fd, Fun K "_law_det" "_law_det" s_Ldet (He.ga K "_law_det") fd ∧ Binds K fd ["_law_table"] [] := by
  obtain ⟨fd, F⟩ := T.c.def_ 68
  exact ⟨fd, F, F.binds (ps := ["_law_table"]) fun _ _ _ _ _ _ us hl => match us, hl with | [_], _ => rfl⟩
abbrev s_Llots : Stmt := (ZH.top 93)
abbrev n_Llots : List Str := ["_law_size", "_law_many", "_law_found", "_law_turn", "_law_longer", "_law_each", "_law_k"]
theorem c_Llots : FnScope n_Llots ["_law_size", "_law_many"] (defScope s_Llots) := ⟨rfl, rfl, rfl, by decide +kernel, rfl, by decide +kernel, by decide +kernel⟩
theorem f_Llots (T : Fac K mg) : ∃ fd, Fun K "_law_lots" "_law_lots" s_Llots (He.ga K "_law_lots") fd ∧ Binds K fd ["_law_size", "_law_many"] [] := by
  obtain ⟨fd, F⟩ := T.c.def_ 69
  exact ⟨fd, F, F.binds (ps := ["_law_size", "_law_many"]) fun _ _ _ _ _ _ us hl => match us, hl with | [_, _], _ => rfl⟩
abbrev s_Lcorners : Stmt := (ZH.top 94)
abbrev n_Lcorners : List Str := ["_law_size", "_law_quotes_here", "_law_rows_here", "_law_found", "_law_lot_here", "_law_own", "_law_point", "_law_k", "_law_whole", "_law_corner", "_law_each", "_law_row"]
theorem c_Lcorners : FnScope n_Lcorners ["_law_size", "_law_quotes_here"] (defScope s_Lcorners) := ⟨rfl, rfl, rfl, by decide +kernel, rfl, by decide +kernel, by decide +kernel⟩
theorem f_Lcorners (T : Fac K mg) : ∃ fd, Fun K "_law_corners" "_law_corners" s_Lcorners (He.ga K "_law_corners") fd ∧ Binds K fd ["_law_size", "_law_quotes_here"] [] := by
  obtain ⟨fd, F⟩ := T.c.def_ 70
  exact ⟨fd, F, F.binds (ps := ["_law_size", "_law_quotes_here"]) fun _ _ _ _ _ _ us hl => match us, hl with | [_, _], _ => rfl⟩
abbrev s_Lahead : Stmt := (ZH.top 95)
abbrev n_Lahead : List Str := ["_law_one", "_law_two", "_law_k"]
theorem c_Lahead : FnScope n_Lahead ["_law_one", "_law_two"] (defScope s_Lahead) := ⟨rfl, rfl, rfl, by decide +kernel, rfl, by decide +kernel, by decide +kernel⟩
theorem f_Lahead (T : Fac K mg) : ∃ fd, Fun K "_law_ahead" "_law_ahead" s_Lahead (He.ga K "_law_ahead") fd ∧ Binds K fd ["_law_one", "_law_two"] [] := by
  obtain ⟨fd, F⟩ := T.c.def_ 71
  exact ⟨fd, F, F.binds (ps := ["_law_one", "_law_two"]) fun _ _ _ _ _ _ us hl => match us, hl with | [_, _], _ => rfl⟩
abbrev s_Lin_order : Stmt := (ZH.top 96)
abbrev n_Lin_order : List Str := ["_law_some", "_law_found", "_law_each", "_law_at", "_law_other"]
theorem c_Lin_order : FnScope n_Lin_order ["_law_some"] (defScope s_Lin_order) := ⟨rfl, rfl, rfl, by decide +kernel, rfl, by decide +kernel, by decide +kernel⟩
theorem f_Lin_order (T : Fac K mg) : ∃ fd, Fun K "_law_in_order" "_law_in_order" s_Lin_order (He.ga K "_law_in_order") fd ∧ Binds K fd ["_law_some"] [] := by
  obtain ⟨fd, F⟩ := T.c.def_ 72
  exact ⟨fd, F, F.binds (ps := ["_law_some"]) fun _ _ _ _ _ _ us hl => match us, hl with | [_], _ => rfl⟩
abbrev s_Lleast_by : Stmt := (ZH.top 97)
abbrev n_Lleast_by : List Str := ["_law_corners_here", "_law_payoff_here", "_law_corner"]
theorem c_Lleast_by : FnScope n_Lleast_by ["_law_corners_here", "_law_payoff_here"] (defScope s_Lleast_by) := ⟨rfl, rfl, rfl, by decide +kernel, rfl, by decide +kernel, by decide +kernel⟩
theorem f_Lleast_by (T : Fac K mg) : ∃ fd, Fun K "_law_least_by" "_law_least_by" s_Lleast_by (He.ga K "_law_least_by") fd ∧ Binds K fd ["_law_corners_here", "_law_payoff_here"] [] := by
  obtain ⟨fd, F⟩ := T.c.def_ 73
  exact ⟨fd, F, F.binds (ps := ["_law_corners_here", "_law_payoff_here"]) fun _ _ _ _ _ _ us hl => match us, hl with | [_, _], _ => rfl⟩
abbrev s_Lgreatest_by : Stmt := (ZH.top 98)
abbrev n_Lgreatest_by : List Str := ["_law_corners_here", "_law_payoff_here", "_law_each"]
theorem c_Lgreatest_by : FnScope n_Lgreatest_by ["_law_corners_here", "_law_payoff_here"] (defScope s_Lgreatest_by) := ⟨rfl, rfl, rfl, by decide +kernel, rfl, by decide +kernel, by decide +kernel⟩
theorem f_Lgreatest_by (T : Fac K mg) : ∃ fd, Fun K "_law_greatest_by" "_law_greatest_by" s_Lgreatest_by (He.ga K "_law_greatest_by") fd ∧ Binds K fd ["_law_corners_here", "_law_payoff_here"] [] := by
  obtain ⟨fd, F⟩ := T.c.def_ 74
  exact ⟨fd, F, F.binds (ps := ["_law_corners_here", "_law_payoff_here"]) fun _ _ _ _ _ _ us hl => match us, hl with | [_, _], _ => rfl⟩
abbrev s_Lbad : Stmt := (ZH.top 99)
abbrev n_Lbad : List Str := ["_law_jar_here", "_law_size", "_law_many"]
theorem c_Lbad : FnScope n_Lbad ["_law_jar_here", "_law_size", "_law_many"] (defScope s_Lbad) := ⟨rfl, rfl, rfl, by decide +kernel, rfl, by decide +kernel, by decide +kernel⟩
theorem f_Lbad (T : Fac K mg) : ∃ fd, Fun K "_law_bad" "_law_bad" s_Lbad (He.ga K "_law_bad") fd ∧ Binds K fd ["_law_jar_here", "_law_size", "_law_many"] [] := by
  obtain ⟨fd, F⟩ := T.c.def_ 75
  exact ⟨fd, F, F.binds (ps := ["_law_jar_here", "_law_size", "_law_many"]) fun _ _ _ _ _ _ us hl => match us, hl with | [_, _, _], _ => rfl⟩
abbrev s_Lends : Stmt := (ZH.top 100)
abbrev n_Lends : List Str := ["_law_book_here", "_law_payoff_here"]
theorem c_Lends : FnScope n_Lends ["_law_book_here", "_law_payoff_here"] (defScope s_Lends) := ⟨rfl, rfl, rfl, by decide +kernel, rfl, by decide +kernel, by decide +kernel⟩
theorem f_Lends (T : Fac K mg) : ∃ fd, Fun K "_law_ends" "_law_ends" s_Lends (He.ga K "_law_ends") fd ∧ Binds K fd ["_law_book_here", "_law_payoff_here"] [] := by
  obtain ⟨fd, F⟩ := T.c.def_ 76
  exact ⟨fd, F, F.binds (ps := ["_law_book_here", "_law_payoff_here"]) fun _ _ _ _ _ _ us hl => match us, hl with | [_, _], _ => rfl⟩
abbrev s_Lleft_right : Stmt := (ZH.top 101)
abbrev n_Lleft_right : List Str := ["_law_jar_here", "_law_own", "_law_size", "_law_spots", "_law_some", "_law_chance_here", "_law_broken", "_law_turn", "_law_each", "_law_top", "_law_bottom"]
theorem c_Lleft_right : FnScope n_Lleft_right ["_law_jar_here", "_law_own", "_law_size", "_law_spots"] (defScope s_Lleft_right) := ⟨rfl, rfl, rfl, by decide +kernel, rfl, by decide +kernel, by decide +kernel⟩
theorem f_Lleft_right (T : Fac K mg) : ∃ fd, Fun K "_law_left_right" "_law_left_right" s_Lleft_right (He.ga K "_law_left_right") fd ∧ Binds K fd ["_law_jar_here", "_law_own", "_law_size", "_law_spots"] [] := by
  obtain ⟨fd, F⟩ := T.c.def_ 77
  exact ⟨fd, F, F.binds (ps := ["_law_jar_here", "_law_own", "_law_size", "_law_spots"]) fun _ _ _ _ _ _ us hl => match us, hl with | [_, _, _, _], _ => rfl⟩
abbrev s_Lright : Stmt := (ZH.top 102)
abbrev n_Lright : List Str := ["_law_jar_here", "_law_turn", "_law_size", "_law_own", "_law_mine", "_law_payoff_here", "_law_lists", "_law_spots", "_law_each", "_law_told", "_law_due", "_law_alone", "_law_free", "_law_k"]
theorem c_Lright : FnScope n_Lright ["_law_jar_here"] (defScope s_Lright) := ⟨rfl, rfl, rfl, by decide +kernel, rfl, by decide +kernel, by decide +kernel⟩
theorem f_Lright (T : Fac K mg) : ∃ fd, Fun K "_law_right" "_law_right" s_Lright (He.ga K "_law_right") fd ∧ Binds K fd ["_law_jar_here"] [] := by
  obtain ⟨fd, F⟩ := T.c.def_ 78
  exact ⟨fd, F, F.binds (ps := ["_law_jar_here"]) fun _ _ _ _ _ _ us hl => match us, hl with | [_], _ => rfl⟩
abbrev s_law : Stmt := (ZH.top 103)
abbrev n_law : List Str := ["_law_cells", "_law_turn"]
theorem c_law : FnScope n_law ["_law_cells"] (defScope s_law) := ⟨rfl, rfl, rfl, by decide +kernel, rfl, by decide +kernel, by decide +kernel⟩
theorem f_law (T : Fac K mg) : ∃ fd, Fun K "law" "law" s_law (He.ga K "law") fd ∧ Binds K fd ["_law_cells"] [] := by
  obtain ⟨fd, F⟩ := T.c.def_ 79
  exact ⟨fd, F, F.binds (ps := ["_law_cells"]) fun _ _ _ _ _ _ us hl => match us, hl with | [_], _ => rfl⟩
end
end Z
end
section
set_option Elab.async false
set_option linter.all false
set_option maxRecDepth 100000
set_option maxHeartbeats 2000000
namespace Z
open PySem PySem.Spec PyProof.Rows L2
section
variable {P : Program} {w : World} {K : PySem.W.Frag} {mg : Str → Option Value} {base : Heap}
/-- the context of a def's body -/
abbrev bx (P : Program) (w : World) (K : PySem.W.Frag) (mg : Str → Option Value) (base : Heap) (N : List Str) (qual : Str) (st : Stmt) (f : Addr) (cdv : Value) (A : Around) (outer : List Env) (s : Shared) (H : Hp) (E : XK) : Cx := (cxOf CX0 P w K mg base N qual (defScope st) f cdv A outer s H E).nox
/-- what a body has to show -/
def Bd (P : Program) (w : World) (K : PySem.W.Frag) (mg : Str → Option Value) (base : Heap) (k : Nat) (N : List Str) (qual : Str) (st : Stmt) (f : Addr) {A : Type} (args : A → List D) (pre : A → Prop) (post : A → D → Prop) : Prop :=
  ∀ (cdv : Value) (Ar : Around) (outer : List Env) (s : Shared) (E : XK) (J : Jx) (B H : Hp) (a : A), Room k (bx P w K mg base N qual st f cdv Ar outer s H E).A → pre a →
    HB (bx P w K mg base N qual st f cdv Ar outer s H E) (defBody st) (S K J B H ((args a).map some ++ List.replicate (N.length - (args a).length) none) []) (fun _ B' H' => Stp J B H B' H' ∧ post a .non) (Ret K J B H (post a))
theorem okD {A : Type} {args : A → List D} {pre : A → Prop} {post : A → D → Prop} {x : Str} {st : Stmt} {N ps : List Str} {k : Nat} (F : ∃ fd, Fun K x x st (He.ga K x) fd ∧ Binds K fd ps []) (g : mg x = some (.ref (He.ga K x))) (Sc : FnScope N ps (defScope st)) (hl : ∀ a, (args a).length = ps.length)
    (hb : Bd P w K mg base k N x st (He.ga K x) args pre post) : Ok P w K mg base x (k + 1) ps (Pm K args pre post) := by
  obtain ⟨fd, F, b⟩ := F
  refine ⟨⟨fd, ?_, b⟩, F.kp, g⟩
  refine F.ok Sc (fun vs H Q E h => ?_) (fun cdv A outer s H vs Q E hr h => ?_)
  · obtain ⟨J, B, a, _, hd, _⟩ := h
    rw [hd.length, hl]
  · obtain ⟨J, B, a, hw, hd, hp, q⟩ := h
    refine ⟨_, wpSs.pss, ?_⟩
    refine hb cdv A outer s E J B H a hr hp _ B H (S.start hw hd) _ (fun σ' B' H' _ hn => ?_) fun v B' H' _ hr => ?_
    · exact q _ _ B' H' hn.2 hn.1 (den_non.mpr rfl)
    · obtain ⟨t, d, pd, hd⟩ := hr
      exact q d v B' H' pd t hd
end
section
variable {X : Cx} {J : Jx} {Γ : Gam} {e : Expr} {es : List Expr} {pos : Pos}
/-- a def of the top is called -/
theorem x_fn {A : Type} {args : A → List D} {pre : A → Prop} {post : A → D → Prop} {P : D → Prop} {PS : List D → Prop} {k k' : Nat} {ps : List Str} {x : Str} {p : Pos} (F : Ok X.prog X.w X.K X.mg X.base x k ps (Pm X.K args pre post)) (hr : Room k' X.A) (hk : k ≤ k') (ha : EvA X J Γ (e :: es) PS) (q : ∀ ds, PS ds → ∃ a, ds = args a ∧ pre a ∧ ∀ d, post a d → P d)
    (hg : Gl X x := by rfl) (hdb : (x == ("__debug__" : Str)) = false := by decide) (he : starEach (e :: es) X.env = (false, eval e X.env) :: starEach es X.env := by rfl) (hpl : (backTo pos (starEach es X.env)).any (·.1) = false := by rfl) : Ev X J Γ (.Call (.Name x p) (e :: es) [] pos) P := by
  obtain ⟨fd, F1, b⟩ := F.f
  exact x_call F1 (hr.mono hk) F.mg F.kp b ha q pass0 hg hdb he hpl
/-- .. the value known -/
theorem x_fnD {A : Type} {args : A → List D} {pre : A → Prop} {val : A → D} {k k' : Nat} {ps : List Str} {x : Str} {p : Pos} (F : Ok X.prog X.w X.K X.mg X.base x k ps (Pm X.K args pre (fun a d => d = val a))) (a : A) (hr : Room k' X.A) (ha : EvA X J Γ (e :: es) (· = args a)) (hp : pre a) (hk : k ≤ k' := by decide)
    (hg : Gl X x := by rfl) (hdb : (x == ("__debug__" : Str)) = false := by decide) (he : starEach (e :: es) X.env = (false, eval e X.env) :: starEach es X.env := by rfl) (hpl : (backTo pos (starEach es X.env)).any (·.1) = false := by rfl) : Ev X J Γ (.Call (.Name x p) (e :: es) [] pos) (· = val a) :=
  x_fn F hr hk ha (fun _ p => ⟨a, p, hp, fun _ q => q⟩) hg hdb he hpl
end
/-- a fraction as a datum -/
abbrev frD (x : Fr) : D := .tup [.int x.1, .int x.2]
section
variable {P : Program} {w : World} {K : PySem.W.Frag} {mg : Str → Option Value} {base : Heap}
theorem ok_is_less (T : Fac K mg) : Ok P w K mg base "is_less" 1 ["one", "other"] (Pm K (fun a : Fr × Fr => [frD a.1, frD a.2]) (fun a => Sz 10000 a.1 ∧ Sz 10000 a.2) (fun a d => d = .bl (fless a.1 a.2))) := by
  refine okD (f_is_less T) (g_is_less T) c_is_less (fun _ => rfl) ?_
  intro cdv Ar outer s E J B H a hr ⟨h1, h2⟩
  refine hb_ret (x_lt (x_mul (x_ixT (x_var 0) x_int rfl) (x_ixT (x_var 1) x_int rfl) ?_) (x_mul (x_ixT (x_var 1) x_int rfl) (x_ixT (x_var 0) x_int rfl) ?_)) fun _ e => e
  · exact wide_mul h1.1 h2.2.2 (by decide) (by decide) (by decide)
  · exact wide_mul h2.1 h1.2.2 (by decide) (by decide) (by decide)
end
end Z
end
section
set_option Elab.async false
set_option linter.all false
set_option maxRecDepth 100000
set_option maxHeartbeats 2000000
namespace Z
open PySem PySem.Spec PyProof.Rows L2 RZ
section
variable {K : PySem.W.Frag} {mg : Str → Option Value}
theorem k_Answer (T : Fac K mg) : Cls K (He.ga K "Answer") := He.cls_ok (T.c.fact (List.mem_of_getElem? (i := 95) rfl))
theorem m_Answer (T : Fac K mg) : Mk K (He.ga K "Answer") (He.ma K (He.ga K "Answer") "__init__") := He.mkr_ok (T.c.fact (List.mem_of_getElem? (i := 96) rfl))
theorem no_Answer_value (T : Fac K mg) : NoAttr K (He.ga K "Answer") "value" := He.noat_ok (T.c.fact (List.mem_of_getElem? (i := 97) rfl))
theorem no_Answer_numbers (T : Fac K mg) : NoAttr K (He.ga K "Answer") "numbers" := He.noat_ok (T.c.fact (List.mem_of_getElem? (i := 98) rfl))
theorem no_Answer_multiples (T : Fac K mg) : NoAttr K (He.ga K "Answer") "multiples" := He.noat_ok (T.c.fact (List.mem_of_getElem? (i := 99) rfl))
theorem k_Table (T : Fac K mg) : Cls K (He.ga K "Table") := He.cls_ok (T.c.fact (List.mem_of_getElem? (i := 100) rfl))
theorem m_Table (T : Fac K mg) : Mk K (He.ga K "Table") (He.ma K (He.ga K "Table") "__init__") := He.mkr_ok (T.c.fact (List.mem_of_getElem? (i := 101) rfl))
theorem no_Table_many (T : Fac K mg) : NoAttr K (He.ga K "Table") "many" := He.noat_ok (T.c.fact (List.mem_of_getElem? (i := 102) rfl))
theorem no_Table_size (T : Fac K mg) : NoAttr K (He.ga K "Table") "size" := He.noat_ok (T.c.fact (List.mem_of_getElem? (i := 103) rfl))
theorem no_Table_unit (T : Fac K mg) : NoAttr K (He.ga K "Table") "unit" := He.noat_ok (T.c.fact (List.mem_of_getElem? (i := 104) rfl))
theorem no_Table_basis (T : Fac K mg) : NoAttr K (He.ga K "Table") "basis" := He.noat_ok (T.c.fact (List.mem_of_getElem? (i := 105) rfl))
theorem no_Table_lines (T : Fac K mg) : NoAttr K (He.ga K "Table") "lines" := He.noat_ok (T.c.fact (List.mem_of_getElem? (i := 106) rfl))
theorem k_Book (T : Fac K mg) : Cls K (He.ga K "Book") := He.cls_ok (T.c.fact (List.mem_of_getElem? (i := 107) rfl))
theorem m_Book (T : Fac K mg) : Mk K (He.ga K "Book") (He.ma K (He.ga K "Book") "__init__") := He.mkr_ok (T.c.fact (List.mem_of_getElem? (i := 108) rfl))
theorem no_Book_held (T : Fac K mg) : NoAttr K (He.ga K "Book") "held" := He.noat_ok (T.c.fact (List.mem_of_getElem? (i := 109) rfl))
theorem no_Book_words (T : Fac K mg) : NoAttr K (He.ga K "Book") "words" := He.noat_ok (T.c.fact (List.mem_of_getElem? (i := 110) rfl))
theorem me_Table_entering (T : Fac K mg) : Meth K (He.ga K "Table") "entering" (He.ma K (He.ga K "Table") "entering") := He.meth_ok (T.c.fact (List.mem_of_getElem? (i := 111) rfl))
theorem me_Table_leaving (T : Fac K mg) : Meth K (He.ga K "Table") "leaving" (He.ma K (He.ga K "Table") "leaving") := He.meth_ok (T.c.fact (List.mem_of_getElem? (i := 112) rfl))
theorem me_Table_is_ahead (T : Fac K mg) : Meth K (He.ga K "Table") "is_ahead" (He.ma K (He.ga K "Table") "is_ahead") := He.meth_ok (T.c.fact (List.mem_of_getElem? (i := 113) rfl))
theorem me_Table_turn (T : Fac K mg) : Meth K (He.ga K "Table") "turn" (He.ma K (He.ga K "Table") "turn") := He.meth_ok (T.c.fact (List.mem_of_getElem? (i := 114) rfl))
theorem me_Table_numbers_now (T : Fac K mg) : Meth K (He.ga K "Table") "numbers_now" (He.ma K (He.ga K "Table") "numbers_now") := He.meth_ok (T.c.fact (List.mem_of_getElem? (i := 115) rfl))
theorem me_Table_way_of (T : Fac K mg) : Meth K (He.ga K "Table") "way_of" (He.ma K (He.ga K "Table") "way_of") := He.meth_ok (T.c.fact (List.mem_of_getElem? (i := 116) rfl))
theorem me_Table_multiples_now (T : Fac K mg) : Meth K (He.ga K "Table") "multiples_now" (He.ma K (He.ga K "Table") "multiples_now") := He.meth_ok (T.c.fact (List.mem_of_getElem? (i := 117) rfl))
theorem p_outcomes (T : Fac K mg) : PropOf K (He.ga K "Book") "outcomes" (He.ma K (He.ga K "Book") "outcomes") (ZH.pg K "Book" "outcomes") := ZH.propB_ok (He.ba T.c.more).1
theorem p_quotes (T : Fac K mg) : PropOf K (He.ga K "Book") "quotes" (He.ma K (He.ga K "Book") "quotes") (ZH.pg K "Book" "quotes") := ZH.propB_ok (He.ba (He.ba T.c.more).2).1
theorem in_Book (T : Fac K mg) : ZH.InstOk K (He.ga K "Book") := ZH.instB_ok (He.ba (He.ba (He.ba T.c.more).2).2).1
theorem ex_NotSound (T : Fac K mg) : ZH.ExcOk K (He.ga K "NotSound") := ZH.excB_ok (He.ba (He.ba (He.ba T.c.more).2).2).2
end
section
variable {P : Program} {w : World} {K : PySem.W.Frag} {mg : Str → Option Value} {base : Heap}
/-- a def at an address keeps a promise -/
def OkA (P : Program) (w : World) (K : PySem.W.Frag) (mg : Str → Option Value) (base : Heap) (k : Nat) (f : Addr) (ps : List Str) (sp : Sp) : Prop := ∃ fd, FnOk P w K mg base CX0 k f fd ps sp ∧ Binds K fd ps []
theorem okA {A : Type} {args : A → List D} {pre : A → Prop} {post : A → D → Prop} {x q : Str} {st : Stmt} {f : Addr} {N ps : List Str} {k : Nat} (F : ∃ fd, Fun K x q st f fd ∧ Binds K fd ps []) (Sc : FnScope N ps (defScope st)) (hl : ∀ a, (args a).length = ps.length)
    (hb : Bd P w K mg base k N q st f args pre post) : OkA P w K mg base (k + 1) f ps (Pm K args pre post) := by
  obtain ⟨fd, F, b⟩ := F
  refine ⟨fd, ?_, b⟩
  refine F.ok Sc (fun vs H Q E h => ?_) (fun cdv A outer s H vs Q E hr h => ?_)
  · obtain ⟨J, B, a, _, hd, _⟩ := h
    rw [hd.length, hl]
  · obtain ⟨J, B, a, hw, hd, hp, q⟩ := h
    refine ⟨_, wpSs.pss, ?_⟩
    refine hb cdv A outer s E J B H a hr hp _ B H (S.start hw hd) _ (fun σ' B' H' _ hn => ?_) fun v B' H' _ hr => ?_
    · exact q _ _ B' H' hn.2 hn.1 (den_non.mpr rfl)
    · obtain ⟨t, d, pd, hd⟩ := hr
      exact q d v B' H' pd t hd
end
section
variable {X : Cx} {J : Jx} {B0 H0 : Hp} {Γ Γ' : Gam} {O O' : Own} {N M : Sp3} {R : Rp} {st : Stmt} {rest body : List Stmt} {e c a b idx : Expr} {es : List Expr} {pos : Pos} {P : D → Prop} {d : D}
/-! ### fields, properties, isinstance -/
theorem x_ansV (T : Fac X.K X.mg) (ha : Ev X J Γ a (· = .ans d)) (hab : attributeBase a "value" X.env (eval a X.env) = eval a X.env := by rfl) : Ev X J Γ (.Attribute a "value" pos) (· = d) := fun σ B H w f Q q =>
  ofE (pe_fld wpE.pe hab) (ha σ B H w f _ fun x v B1 H1 px s1 dx => by
    subst px
    obtain ⟨p, dd, x, y, z, rfl, h1, h2⟩ := den_ans.mp dx
    exact ⟨p, _, dd, _, x, rfl, s1.w.s _ _ h1, k_Answer T, no_Answer_value T, rfl, q _ _ B1 H1 rfl s1 h2⟩)
theorem x_held {k : Int} {qs : List D} (T : Fac X.K X.mg) (ha : Ev X J Γ a (· = .book k qs)) (hab : attributeBase a "held" X.env (eval a X.env) = eval a X.env := by rfl) : Ev X J Γ (.Attribute a "held" pos) (· = .tup [.int k, .tup qs]) := fun σ B H w f Q q =>
  ofE (pe_fld wpE.pe hab) (ha σ B H w f _ fun x v B1 H1 px s1 dx => by
    subst px
    obtain ⟨p, dd, h, t, s, vs, rfl, h1, h2, h3, h4⟩ := den_book.mp dx
    refine ⟨p, _, dd, _, .ref h, rfl, s1.w.s _ _ h1, k_Book T, no_Book_held T, rfl, q _ _ B1 H1 rfl s1 ?_⟩
    exact den_tup.mpr ⟨h, _, rfl, h2, dens_cons.mpr ⟨_, _, rfl, den_int.mpr rfl, dens_cons.mpr ⟨_, _, rfl, den_tup.mpr ⟨t, vs, rfl, h3, h4⟩, dens_nil.mpr rfl⟩⟩⟩)
theorem x_prop {A : Type} {args : A → List D} {pre : A → Prop} {post : A → D → Prop} {f : Str} {p g : Addr} {ps : List Str} {k k' : Nat} {kb : Int} {qs : List D} (T : Fac X.K X.mg) (hp : PropOf X.K (He.ga X.K "Book") f p g) (F : OkA X.prog X.w X.K X.mg X.base k g ps (Pm X.K args pre post)) (hr : Room k' X.A) (hk : k + 1 ≤ k')
    (ha : Ev X J Γ a (· = .book kb qs)) (x : A) (he : args x = [.book kb qs]) (hpre : pre x) (q : ∀ d, post x d → P d) (hab : attributeBase a f X.env (eval a X.env) = eval a X.env := by rfl) : Ev X J Γ (.Attribute a f pos) P := fun σ B H w fi Q qq => by
  obtain ⟨fd, F, b⟩ := F
  refine ofE (pe_prop (E := fun _ _ _ => False) wpE.pe (k_Book T) hp F (hr.mono hk) b .nil pass0 hab) (ha σ B H w fi _ fun y v B1 H1 px s1 dx => ?_)
  subst px
  obtain ⟨p1, dd, h, t, s, vs, e1, h1, _⟩ := den_book.mp dx
  subst e1
  refine ⟨p1, dd, _, rfl, s1.w.s _ _ h1, J, B1, x, s1.w, ?_, hpre, fun d v B2 H2 pd s2 hd => qq d v B2 H2 (q d pd) (s1.trans s2) hd⟩
  rw [he]
  exact dens_cons.mpr ⟨_, [], rfl, dx, dens_nil.mpr rfl⟩
theorem x_isiBook {p p2 : Pos} {k : Int} {qs : List D} (T : Fac X.K X.mg) (ha : Ev X J Γ a (· = .book k qs)) (hg : Gl X "isinstance" := by rfl) (hgT : Gl X "Book" := by rfl)
    (he : starEach [a, .Name "Book" p2] X.env = (false, eval a X.env) :: starEach [.Name "Book" p2] X.env := by rfl) (he2 : starEach [.Name "Book" p2] X.env = (false, eval (.Name "Book" p2) X.env) :: starEach [] X.env := by rfl) (hpl : (backTo pos (starEach [.Name "Book" p2] X.env)).any (·.1) = false := by rfl) :
    Ev X J Γ (.Call (.Name "isinstance" p) [a, .Name "Book" p2] [] pos) (· = .bl true) := fun σ B H w f Q q =>
  ofE (pe_callB call_isi hg (b_isinstance T) (by decide +kernel) (pa_cons wpE.pe (pa_cons (pe_glob hgT (g_Book T) (v := .ref (He.ga X.K "Book")) rfl (by decide)) pa_nil he2) he) (by decide) (by decide) he hpl) (ha σ B H w f _ fun x v B1 H1 px s1 dx => by
    subst px
    obtain ⟨p1, dd, h, t, s, vs, e1, h1, _⟩ := den_book.mp dx
    subst e1
    have I := in_Book T
    exact ⟨_, .ref (He.ga X.K "Book"), _, _, true, rfl, .own _, .base (.ins (s1.w.s _ _ h1) (k_Book T) I.ha I.hn I.htk I.hm), I.kit, q _ _ B1 H1 rfl s1 (den_bl.mpr rfl)⟩)
/-! ### the table, read -/
section
variable {t : TabC}
theorem x_tab {f : Str} {dd : D} (T : Fac X.K X.mg) (ha : Ev X J Γ a (· = .tab t)) (hn : NoAttr X.K (He.ga X.K "Table") f) (hv : ∀ B, J.tab = some t → ∃ v, List.lookup f [("many", V.int (t.many : Nat)), ("size", .int (t.size : Nat)), ("unit", .int t.unit), ("basis", .ref t.b), ("lines", .ref t.l)] = some v ∧ Den X.K J dd B v)
    (hab : attributeBase a f X.env (eval a X.env) = eval a X.env) : Ev X J Γ (.Attribute a f pos) (· = dd) := fun σ B H w fi Q q =>
  ofE (pe_fld wpE.pe hab) (ha σ B H w fi _ fun x v B1 H1 px s1 dx => by
    subst px
    obtain ⟨h1, h2, rfl⟩ := den_tab.mp dx
    obtain ⟨v, hl, hd⟩ := hv B1 h1
    have TA := (s1.w.t t h1).1
    refine ⟨t.a, _, t.dx, _, v, rfl, TA.ha, by rw [h2]; exact k_Table T, by rw [h2]; exact hn, hl, q _ _ B1 H1 rfl s1 hd⟩)
theorem x_many (T : Fac X.K X.mg) (ha : Ev X J Γ a (· = .tab t)) (hab : attributeBase a "many" X.env (eval a X.env) = eval a X.env := by rfl) : Ev X J Γ (.Attribute a "many" pos) (· = .int (t.many : Nat)) := x_tab T ha (no_Table_many T) (fun B _ => ⟨_, rfl, den_int.mpr rfl⟩) hab
theorem x_size (T : Fac X.K X.mg) (ha : Ev X J Γ a (· = .tab t)) (hab : attributeBase a "size" X.env (eval a X.env) = eval a X.env := by rfl) : Ev X J Γ (.Attribute a "size" pos) (· = .int (t.size : Nat)) := x_tab T ha (no_Table_size T) (fun B _ => ⟨_, rfl, den_int.mpr rfl⟩) hab
theorem x_unit (T : Fac X.K X.mg) (ha : Ev X J Γ a (· = .tab t)) (hab : attributeBase a "unit" X.env (eval a X.env) = eval a X.env := by rfl) : Ev X J Γ (.Attribute a "unit" pos) (· = .int t.unit) := x_tab T ha (no_Table_unit T) (fun B _ => ⟨_, rfl, den_int.mpr rfl⟩) hab
theorem x_lines (T : Fac X.K X.mg) (ha : Ev X J Γ a (· = .tab t)) (hab : attributeBase a "lines" X.env (eval a X.env) = eval a X.env := by rfl) : Ev X J Γ (.Attribute a "lines" pos) (· = .tln t) := x_tab T ha (no_Table_lines T) (fun B h => ⟨_, rfl, den_tln.mpr ⟨h, rfl⟩⟩) hab
theorem x_basis (T : Fac X.K X.mg) (ha : Ev X J Γ a (· = .tab t)) (hab : attributeBase a "basis" X.env (eval a X.env) = eval a X.env := by rfl) : Ev X J Γ (.Attribute a "basis" pos) (· = .tbs t) := x_tab T ha (no_Table_basis T) (fun B h => ⟨_, rfl, den_tbs.mpr ⟨h, rfl⟩⟩) hab
theorem x_ixln {i : Int} {r : List Int} (ha : Ev X J Γ a (· = .tln t)) (hb : Ev X J Γ b (· = .int i)) (e : atI t.rows i = some r) (hs : PlainIx b := by exact fun _ _ => rfl) : Ev X J Γ (.Subscript a b pos) (· = .lst (r.map D.int)) := fun σ B H w f Q q =>
  ofE (pe_ix ix_list wpE.pe wpE.pe hs) (two (ta := wpE X a) (tb := wpE X b) ha hb w f fun x y v u B' H' px py s dx dy => by
    subst px py
    obtain ⟨h1, rfl⟩ := den_tln.mp dx
    obtain ⟨vs, v1, v2, v3⟩ := (s.w.t t h1).1.hl
    unfold atI at e
    cases z : ixN t.rows.length i with
    | none => rw [z] at e; cases e
    | some j =>
      rw [z] at e
      obtain ⟨p, p1, p2⟩ := v3 j r e
      refine ⟨t.l, vs, i, .ref p, rfl, den_int.mp dy, SqL.of v1, ?_, q _ _ B' H' rfl s (den_lst.mpr ⟨p, _, rfl, p2, .of_ints⟩)⟩
      unfold atI
      rw [v2, z]
      exact p1)
theorem x_ixbs {i n : Int} (ha : Ev X J Γ a (· = .tbs t)) (hb : Ev X J Γ b (· = .int i)) (e : atI t.basis i = some n) (hs : PlainIx b := by exact fun _ _ => rfl) : Ev X J Γ (.Subscript a b pos) (· = .int n) := fun σ B H w f Q q =>
  ofE (pe_ix ix_list wpE.pe wpE.pe hs) (two (ta := wpE X a) (tb := wpE X b) ha hb w f fun x y v u B' H' px py s dx dy => by
    subst px py
    obtain ⟨h1, rfl⟩ := den_tbs.mp dx
    have hb := (s.w.t t h1).1.hb
    refine ⟨t.b, _, i, .int n, rfl, den_int.mp dy, SqL.of hb, ?_, q _ _ B' H' rfl s (den_int.mpr rfl)⟩
    unfold atI at e ⊢
    rw [List.length_map]
    cases z : ixN t.basis.length i with
    | none => rw [z] at e; cases e
    | some j =>
      rw [z] at e
      show (t.basis.map V.int)[j]? = _
      rw [List.getElem?_map, show t.basis[j]? = some n from e]
      rfl)
theorem i_enumbs {elts : List Expr} {kk : Nat} {p tpos : Pos} (h : Ev X J Γ e (· = .tbs t)) (hm : X.mg "enumerate" = none) (hg : Gl X "enumerate" := by rfl) (hs : starEach [e] X.env = [(false, eval e X.env)] := by rfl) :
    EvI X J Γ (.Tuple elts kk tpos) (.Call (.Name "enumerate" p) [e] [] pos) (· = t.basis.zipIdx.map fun q => D.tup [.int (q.2 : Nat), .int q.1]) := fun σ B H w f R q =>
  ofI (pi_enum hg hm (pa_cons wpE.pe pa_nil hs) hs) (h σ B H w f _ fun d v B1 H1 p s1 hd => by
    subst p
    obtain ⟨h1, rfl⟩ := den_tbs.mp hd
    refine ⟨t.b, _, rfl, SqL.of (s1.w.t t h1).1.hb, q _ _ B1 H1 rfl s1 ⟨?_⟩⟩
    have len : (t.basis.zipIdx.map fun q => D.tup [.int (q.2 : Nat), .int q.1]).length = (t.basis.map V.int).length := by rw [List.length_map, List.length_zipIdx, List.length_map]
    rw [len]
    refine (walk_enum (K := X.K) (a := t.b) (xs := t.basis.map V.int)).mono (fun H ⟨B2, w2, e⟩ => SqL.of (w2.t t h1).1.hb) fun i H x H' hi e y B2 w2 s => ?_
    obtain ⟨T, x1, x2, e1, e2, e3, e4, e5⟩ := y
    have e5 : (t.basis.map V.int)[i]? = some x2 := e5
    rw [List.getElem?_map] at e5
    cases hz : t.basis[i]? with
    | none => rw [hz] at e5; cases e5
    | some n =>
      rw [hz] at e5
      have e5 : V.int n = x2 := Option.some.inj e5
      have e4 : V.int (i : Nat) = x1 := Option.some.inj e4
      subst e1 e3 e4 e5
      obtain ⟨s1, s2⟩ := pair_new (K := X.K) (J := J) (d := .int (i : Nat)) (e := .int n) (x := .int (i : Nat)) (y := .int n) w2 e2 (den_int.mpr rfl) (den_int.mpr rfl)
      exact ⟨_, _, by rw [List.getElem?_map, List.getElem?_zipIdx, hz]; simp, s1, s2⟩)
/-- a method of the table, read only -/
theorem x_meth0 {A : Type} {args : A → List D} {pre : A → Prop} {post : A → D → Prop} {m : Str} {g : Addr} {ps : List Str} {k k' : Nat} {apos : Pos} {pl : Sem Bool} (T : Fac X.K X.mg) (hm : Meth X.K (He.ga X.K "Table") m g) (F : OkA X.prog X.w X.K X.mg X.base k g ps (Pm X.K args pre post)) (hr : Room k' X.A) (hk : k ≤ k')
    (ha : Ev X J Γ a (· = .tab t)) (x : A) (he : args x = [.tab t]) (hpre : pre x) (q : ∀ d, post x d → P d) (hf : List.lookup m [("many", V.int (t.many : Nat)), ("size", .int (t.size : Nat)), ("unit", .int t.unit), ("basis", .ref t.b), ("lines", .ref t.l)] = none := by rfl)
    (ht : eval (.Call (.Attribute a m apos) [] [] pos) X.env = (do
      let ov ← eval a X.env
      standAt apos.atName
      let (f, first) ← holding [ov] (getMethod ov m pl)
      callWith pos f first (backTo pos (starEach [] X.env)) (backToKw pos (keywordEach [] X.env))) := by rfl) : Ev X J Γ (.Call (.Attribute a m apos) [] [] pos) P := fun σ B H w fi Q qq => by
  obtain ⟨fd, F, b⟩ := F
  refine ofE (pe_meth0 (E := fun _ _ _ => False) wpE.pe (k_Table T) hm F (hr.mono hk) b .nil pass0 ht) (ha σ B H w fi _ fun y v B1 H1 px s1 dx => ?_)
  subst px
  obtain ⟨h1, h2, rfl⟩ := den_tab.mp dx
  have TA := (s1.w.t t h1).1
  refine ⟨t.a, t.dx, _, rfl, by rw [← h2]; exact TA.ha, hf, ?_⟩
  refine ⟨J, B1, x, s1.w, ?_, hpre, fun d v B2 H2 pd s2 hd => qq d v B2 H2 (q d pd) (s1.trans s2) hd⟩
  rw [he]
  exact dens_cons.mpr ⟨_, _, rfl, dx, dens_nil.mpr rfl⟩
theorem x_meth {A : Type} {args : A → List D} {pre : A → Prop} {post : A → D → Prop} {m : Str} {g : Addr} {ps : List Str} {k k' : Nat} {apos : Pos} {pl : Sem Bool} {ds : List D} (T : Fac X.K X.mg) (hm : Meth X.K (He.ga X.K "Table") m g) (F : OkA X.prog X.w X.K X.mg X.base k g ps (Pm X.K args pre post)) (hr : Room k' X.A) (hk : k ≤ k')
    (ha : Ev X J Γ a (· = .tab t)) (hes : EvA X J Γ (e :: es) (· = ds)) (x : A) (he : args x = .tab t :: ds) (hpre : pre x) (q : ∀ d, post x d → P d) (hf : List.lookup m [("many", V.int (t.many : Nat)), ("size", .int (t.size : Nat)), ("unit", .int t.unit), ("basis", .ref t.b), ("lines", .ref t.l)] = none := by rfl)
    (hst : starEach (e :: es) X.env = (false, eval e X.env) :: starEach es X.env := by rfl) (hpl : (backTo pos (starEach es X.env)).any (·.1) = false := by rfl)
    (ht : eval (.Call (.Attribute a m apos) (e :: es) [] pos) X.env = (do
      let ov ← eval a X.env
      standAt apos.atName
      let (f, first) ← holding [ov] (getMethod ov m pl)
      callWith pos f first (backTo pos (starEach (e :: es) X.env)) (backToKw pos (keywordEach [] X.env))) := by rfl) : Ev X J Γ (.Call (.Attribute a m apos) (e :: es) [] pos) P := fun σ B H w fi Q qq => by
  obtain ⟨fd, F, b⟩ := F
  refine ofE (pe_meth (E := fun _ _ _ => False) wpE.pe (k_Table T) hm F (hr.mono hk) b .nil pass0 wpA.pa hst hpl ht) (ha σ B H w fi _ fun y v B1 H1 px s1 dx => ?_)
  subst px
  obtain ⟨h1, h2, e1⟩ := den_tab.mp dx
  subst e1
  have TA := (s1.w.t t h1).1
  refine ⟨t.a, t.dx, _, rfl, by rw [← h2]; exact TA.ha, hf, ?_⟩
  refine hes σ B1 H1 s1.w (fi.mono s1.b) _ fun ds' vs B2 H2 ed s2 dds => ?_
  subst ed
  rw [List.append_nil]
  refine ⟨J, B2, x, s2.w, ?_, hpre, fun d v B3 H3 pd s3 hd => qq d v B3 H3 (q d pd) ((s1.trans s2).trans s3) hd⟩
  rw [he]
  exact dens_cons.mpr ⟨_, _, rfl, dx.mono s2.b, dds⟩
end
end
end Z
end
section
set_option Elab.async false
set_option linter.all false
set_option maxRecDepth 100000
set_option maxHeartbeats 2000000
namespace Z
open PySem PySem.Spec PyProof.Rows L2 RZ
/-! ### a loop whose state is told freely -/
section
variable {X : Cx} {J : Jx} {B0 H0 : Hp} {Γ Γ' : Gam} {O O' : Own} {N M : Sp3} {R : Rp} {st : Stmt} {rest body : List Stmt} {e c a b idx iter : Expr} {es : List Expr} {pos : Pos} {P : D → Prop} {d : D}
theorem hb_forR {α : Type} {x : Str} {px : Pos} (slot : Nat) {n : Nat} {S0 : Sp3} (Sf : Nat → α → Sp3) (x0 : α) (hi : ∀ σ B H, S0 σ B H → ∀ R : It → Hp → Prop, (∀ B' H', Same B B' → Sf 0 x0 σ B' H' → R (Itr 0 n) H') → wpI X (.Name x px) iter σ H R)
    (hb : ∀ (i : Nat) y, i < n → HB X body (fun σ B H => ∃ σ0, σ = σ0.set slot (some (.int (i : Nat))) ∧ Sf i y σ0 B H) (fun σ B H => ∃ y', Sf (i + 1) y' σ B H) R) (hn : ∀ y, HB X rest (Sf n y) N R) (hp : PassesOwn (model X.prog X.w) X.A X.env X.xe) (hN : X.N.Nodup) (hi0 : X.N[slot]? = some x := by rfl) (hx : Loc X.env.scope x := by first | exact Or.inl rfl | exact Or.inr rfl)
    (hf : X.fn x = true ∨ X.env.scope.names.lookup x = some .local := by first | exact .inl rfl | exact .inr rfl) (hc : X.calm = true := by rfl) (hs : ∀ x, foldedSetIterable iter X.env x = pure x := by intro _; rfl) :
    HB X (.For (.Name x px) iter body [] pos :: rest) S0 N R :=
  hb_cons (M := fun σ B H => ∃ y, Sf n y σ B H)
    (fun σ B H s E nx r => ofS (ps_for hp hc wpI.pi (pg_name hN hi0 hx hf) wpSs.pss hs) (hi σ B H s _ fun B1 H1 e1 s1 => by
      refine for_it (walk_range (lo := 0) (n := n)) (fun i σ' H' => ∃ B', Same B B' ∧ ∃ y, Sf i y σ' B' H') ⟨B1, e1, x0, s1⟩ (fun _ _ _ _ _ => trivial) (fun i v σ' H' H2 hlt ⟨B', e, y, s'⟩ w => ?_) (fun σ' H' ⟨B', e, y, s'⟩ => nx σ' B' H' e ⟨y, s'⟩)
      obtain ⟨rfl, rfl⟩ := w
      have z := hb i y hlt (σ'.set slot (some (.int (i : Nat)))) B' H2 ⟨σ', rfl, s'⟩ { E with nx := fun σ' H' => ∃ B', Same B B' ∧ ∃ y, Sf (i + 1) y σ' B' H', ct := fun σ' H' => ∃ B', Same B B' ∧ ∃ y, Sf (i + 1) y σ' B' H', bk := E.nx } (fun σ4 B4 H4 e4 ⟨y', s4⟩ => ⟨B4, e.trans e4, y', s4⟩) fun v B4 H4 e4 => r v B4 H4 (e.trans e4)
      simp only [Int.zero_add]
      exact z))
    (.ex fun y => hn y)
theorem i_range1R {n : Int} {p px : Pos} {x : Str} (h : Ev X J Γ e (· = .int n)) (hn : -(2 ^ 62) ≤ n ∧ n < 2 ^ 62) (hm : X.mg "range" = none) {σ : L2.St} {B H : Hp} (w : W J B H) (f : Fit X.K J Γ σ B) {R : It → Hp → Prop} (q : ∀ B' H', Stp J B H B' H' → R (Itr 0 n.toNat) H') (hg : Gl X "range" := by rfl) (hs : starEach [e] X.env = [(false, eval e X.env)] := by rfl) : wpI X (.Name x px) (.Call (.Name "range" p) [e] [] pos) σ H R :=
  ofI (pi_range1 hg hm (pa_cons wpE.pe pa_nil hs) hs) (h σ B H w f _ fun d v B1 H1 p s1 hd => by
    subst p
    exact ⟨n, by rw [den_int.mp hd], hn.1, hn.2, q B1 H1 s1⟩)
end
/-! ### the table, changed -/
mutual
/-- nothing of a table within -/
def nt : D → Bool
  | .tab _ => false
  | .tln _ => false
  | .tbs _ => false
  | .tup xs => nts xs
  | .lst xs => nts xs
  | .ans d => nt d
  | .book _ qs => nts qs
  | _ => true
def nts : List D → Bool
  | [] => true
  | x :: xs => nt x && nts xs
end
theorem nts_ints : ∀ ns : List Int, nts (ns.map D.int) = true
  | [] => by simp [nts]
  | n :: ns => by simp [nts, nt, nts_ints ns]
section
variable {K : PySem.W.Frag} {J J' : Jx} {B H : Hp}
mutual
theorem Den.reJ (hj : J'.jar = J.jar) : ∀ {d : D} {v : V}, nt d = true → Den K J d B v → Den K J' d B v
  | .non, _, _, h => by unfold Den at h ⊢; exact h
  | .bl _, _, _, h => by unfold Den at h ⊢; exact h
  | .int _, _, _, h => by unfold Den at h ⊢; exact h
  | .str _, _, _, h => by unfold Den at h ⊢; exact h
  | .txt, _, _, h => by unfold Den at h ⊢; exact h
  | .adr _, _, _, h => by unfold Den at h ⊢; exact h
  | .scr _, _, _, h => by unfold Den at h ⊢; exact h
  | .jar, _, _, h => by rw [den_jar] at h ⊢; rw [hj]; exact h
  | .tup ds, _, g, h => by
    rw [den_tup] at h ⊢
    obtain ⟨a, vs, e1, e2, e3⟩ := h
    exact ⟨a, vs, e1, e2, Dens.reJ hj (by simpa [nt] using g) e3⟩
  | .lst ds, _, g, h => by
    rw [den_lst] at h ⊢
    obtain ⟨a, vs, e1, e2, e3⟩ := h
    exact ⟨a, vs, e1, e2, Dens.reJ hj (by simpa [nt] using g) e3⟩
  | .book k q, _, g, h => by
    rw [den_book] at h ⊢
    obtain ⟨a, dx, x, t, s, vs, e1, e2, e3, e4, e5⟩ := h
    exact ⟨a, dx, x, t, s, vs, e1, e2, e3, e4, Dens.reJ hj (by simpa [nt] using g) e5⟩
  | .ans d, _, g, h => by
    rw [den_ans] at h ⊢
    obtain ⟨a, dx, x, y, z, e1, e2, e3⟩ := h
    exact ⟨a, dx, x, y, z, e1, e2, Den.reJ hj (by simpa [nt] using g) e3⟩
  | .tab _, _, g, _ => by simp [nt] at g
  | .tln _, _, g, _ => by simp [nt] at g
  | .tbs _, _, g, _ => by simp [nt] at g
theorem Dens.reJ (hj : J'.jar = J.jar) : ∀ {ds : List D} {vs : List V}, nts ds = true → Dens K J ds B vs → Dens K J' ds B vs
  | [], _, _, h => by rw [dens_nil] at h ⊢; exact h
  | d :: ds, _, g, h => by
    rw [dens_cons] at h ⊢
    simp only [nts, Bool.and_eq_true] at g
    obtain ⟨v, r, e1, e2, e3⟩ := h
    exact ⟨v, r, e1, Den.reJ hj g.1 e2, Dens.reJ hj g.2 e3⟩
end
/-- J with another table -/
abbrev Jx.with (J : Jx) (t : TabC) : Jx := ⟨J.jar, some t⟩
/-- Γ' keeps what does not tell of the table, and has t' for t -/
def ReG (t t' : TabC) (Γ Γ' : Gam) : Prop := Γ'.length = Γ.length ∧ ∀ (i : Nat) (d : D), Γ'[i]? = some (some d) → (Γ[i]? = some (some d) ∧ nt d = true) ∨ (d = .tab t' ∧ Γ[i]? = some (some (.tab t)))
theorem reG_nil {t t' : TabC} : ReG t t' [] [] := ⟨rfl, fun i d h => by simp at h⟩
theorem reG_none {t t' : TabC} {x : Option D} {Γ Γ' : Gam} (h : ReG t t' Γ Γ') : ReG t t' (x :: Γ) (none :: Γ') := ⟨by simp [h.1], fun i d e => by
  cases i with
  | zero => cases e
  | succ i => exact h.2 i d e⟩
theorem reG_same {t t' : TabC} {x : D} {Γ Γ' : Gam} (h : ReG t t' Γ Γ') (hx : nt x = true := by rfl) : ReG t t' (some x :: Γ) (some x :: Γ') := ⟨by simp [h.1], fun i d e => by
  cases i with
  | zero =>
    have : x = d := by injection e with e; injection e
    subst this
    exact .inl ⟨rfl, hx⟩
  | succ i => exact h.2 i d e⟩
theorem reG_tab {t t' : TabC} {Γ Γ' : Gam} (h : ReG t t' Γ Γ') : ReG t t' (some (.tab t) :: Γ) (some (.tab t') :: Γ') := ⟨by simp [h.1], fun i d e => by
  cases i with
  | zero =>
    have : D.tab t' = d := by injection e with e; injection e
    exact .inr ⟨this.symm, rfl⟩
  | succ i => exact h.2 i d e⟩
theorem Fit.retab {Γ Γ' : Gam} {σ : L2.St} {t t' : TabC} (f : Fit K J Γ σ B) (ea : t'.a = t.a) (ec : t'.c = t.c) (hΓ : ReG t t' Γ Γ') : Fit K (J.with t') Γ' σ B := ⟨fun i d h => by
  rcases hΓ.2 i d h with ⟨h1, h2⟩ | ⟨rfl, h1⟩
  · obtain ⟨v, h3, h4⟩ := f.g i d h1
    exact ⟨v, h3, Den.reJ (J := J) (J' := J.with t') rfl h2 h4⟩
  · obtain ⟨v, h3, h4⟩ := f.g i _ h1
    obtain ⟨k1, k2, k3⟩ := den_tab.mp h4
    exact ⟨v, h3, den_tab.mpr ⟨rfl, ec.trans k2, by rw [k3, ea]⟩⟩, by rw [hΓ.1]; exact f.l⟩
theorem S.retab {Γ Γ' : Gam} {σ : L2.St} {B0 H0 : Hp} (s : S K J B0 H0 Γ [] σ B H) {t t' : TabC} (h : J.tab = some t) (ea : t'.a = t.a) (el : t'.l = t.l) (eb : t'.b = t.b) (ec : t'.c = t.c) {x : Addr} {o : HO} (hx : x = t.a ∨ x = t.l ∨ x = t.b) (h0 : H0 x = none) (T' : TabAt B (upd H x o) t') (hΓ : ReG t t' Γ Γ') : S K (J.with t') B0 H0 Γ' [] σ B (upd H x o) := by
  have w := s.w
  obtain ⟨T, nj⟩ := w.t t h
  have hb : B x = none := (w.has (.inr ⟨t, h, hx⟩)).1
  have njx : ∀ j, J.jar = some j → j ≠ x := fun j e => by
    obtain ⟨n1, n2, n3⟩ := nj j e
    rcases hx with q | q | q <;> subst q
    · exact n1
    · exact n2
    · exact n3
  refine ⟨⟨s.st.b, ⟨same_up w.s hb, fun j e => ?_, fun tt e => ?_⟩, fun y hy h1 h2 => ?_⟩, s.fit.retab ea ec hΓ, fun q hq => (by cases hq), fun q hq => (by cases hq), by rw [hΓ.1]; exact s.len⟩
  · obtain ⟨j1, j2⟩ := w.j j e
    obtain ⟨a, b, c, g0, g1⟩ := j2
    exact ⟨j1, a, b, c, g0, by rw [upd_ne (njx j e)]; exact g1⟩
  · have : t' = tt := Option.some.inj e
    subst this
    refine ⟨T', fun j e => ?_⟩
    rw [ea, el, eb]
    exact nj j e
  · have ne : y ≠ x := fun z => h2 (by rw [z]; exact h0)
    obtain ⟨e1, e2⟩ := s.st.own y hy h1 h2
    exact ⟨e1, by rw [upd_ne ne]; exact e2⟩
end
section
variable {X : Cx} {J : Jx} {B0 H0 : Hp} {Γ Γ' : Gam} {O O' : Own} {N M : Sp3} {R : Rp} {st : Stmt} {rest body : List Stmt} {e c a b idx iter : Expr} {es : List Expr} {pos : Pos} {P : D → Prop} {d : D} {t : TabC}
/-- self.lines[i] = a new row -/
theorem hs_tabrow {i : Int} {r : List Int} {k : Nat} {p2 : Pos} (ht : J.tab = some t) (ha : Ev X J Γ a (· = .tln t)) (hidx : Ev X J Γ idx (· = .int i)) (he : EvO X J Γ e (· = r.map D.int)) (hi : ixN t.rows.length i = some k) (h0 : H0 t.l = none) (hΓ : ReG t { t with rows := t.rows.set k r } Γ Γ')
    (hs : swapsWithSole [.Subscript a idx p2] e pos.line X.env = pure false := by rfl) (hw : swappedStores [.Subscript a idx p2] e X.env = pure none := by rfl) (hone : (assignEach [.Subscript a idx p2] X.env).map (·.2) = [assign (.Subscript a idx p2) X.env] := by rfl)
    (has : ∀ v, assign (.Subscript a idx p2) X.env v = (do
      let ov ← holding [v] (eval a X.env)
      let iv ← holding [v, ov] (eval idx X.env)
      standAt p2
      holding [v, ov, iv] (setItem ov iv v)
      release [v, ov, iv] []) := by intro _; rfl) :
    HS X (.Assign [.Subscript a idx p2] e pos) (SX X J B0 H0 Γ []) (SX X (J.with { t with rows := t.rows.set k r }) B0 H0 Γ' []) R := fun σ B H s E n _ =>
  ofS (ps_asg wpE.pe (pg_sub wpE.pe wpE.pe set_list has) hs hw hone) (he σ B H s.w s.fit _ fun ds p vs B1 H1 pd t1 hp hb hj hv hd => by
    subst pd
    have t2 := t1.freeze s.w hp hb hj hv
    have s1 := s.step t2
    have ev : vs = r.map V.int := hd.ints
    have hB1 : (upd B1 p (.lst vs)) p = some (.lst (r.map V.int)) := by rw [upd_same, ev]
    refine ha σ _ H1 s1.w s1.fit _ fun d2 v2 B2 H2 e2 t3 hd2 => ?_
    subst e2
    have s2 := s1.step t3
    obtain ⟨h1, rfl⟩ := den_tln.mp hd2
    refine hidx σ B2 H2 s2.w s2.fit _ fun d3 v3 B3 H3 e3 t4 hd3 => ?_
    subst e3
    have s3 := s2.step t4
    have hB3 : B3 p = some (.lst (r.map V.int)) := t4.b _ _ (t3.b _ _ hB1)
    have TA := (s3.w.t t ht).1
    obtain ⟨us, u1, u2, u3⟩ := TA.hl
    have hk := (ixN_seq hi).2.1
    have nla : t.a ≠ t.l := fun z => by
      have := TA.ha
      rw [z, u1] at this
      cases this
    refine ⟨t.l, us, i, k, rfl, den_int.mp hd3, u1, by rw [u2]; exact hi, n σ B3 _ ((t2.b.trans t3.b).trans t4.b) ?_⟩
    refine s3.retab (t' := { t with rows := t.rows.set k r }) ht rfl rfl rfl rfl (.inr (.inl rfl)) h0 ⟨TA.a, TA.l, TA.b, by rw [upd_ne nla]; exact TA.ha, ⟨_, upd_same, by rw [List.length_set, List.length_set]; exact u2, fun j q hq => ?_⟩, by rw [upd_ne (Ne.symm TA.ne)]; exact TA.hb, TA.ne⟩ hΓ
    by_cases hjk : k = j
    · subst hjk
      have : q = r := by
        have z : (t.rows.set k r)[k]? = some r := by rw [List.getElem?_set, if_pos rfl, if_pos hk]
        have hq : (t.rows.set k r)[k]? = some q := hq
        rw [z] at hq
        exact (Option.some.inj hq).symm
      subst this
      exact ⟨p, by rw [List.getElem?_set, if_pos rfl, if_pos (by rw [u2]; exact hk)], hB3⟩
    · have hq : (t.rows.set k r)[j]? = some q := hq
      rw [List.getElem?_set_ne hjk] at hq
      obtain ⟨p', p1, p2⟩ := u3 j q hq
      exact ⟨p', by rw [List.getElem?_set_ne hjk]; exact p1, p2⟩)
/-- self.unit = e -/
theorem hs_tabunit {i : Int} {p2 : Pos} (T : Fac X.K X.mg) (ht : J.tab = some t) (ha : Ev X J Γ a (· = .tab t)) (he : Ev X J Γ e (· = .int i)) (h0 : H0 t.a = none) (hΓ : ReG t { t with unit := i } Γ Γ')
    (hs : swapsWith e (some (.Attribute a "unit" p2)) pos.line X.env = pure false := by rfl) :
    HS X (.Assign [.Attribute a "unit" p2] e pos) (SX X J B0 H0 Γ []) (SX X (J.with { t with unit := i }) B0 H0 Γ' []) R := fun σ B H s E n _ =>
  ofS (ps_fld wpE.pe wpE.pe hs) (he σ B H s.w s.fit _ fun d v B1 H1 pd t1 hd => by
    subst pd
    have s1 := s.step t1
    refine ha σ B1 H1 s1.w s1.fit _ fun d2 v2 B2 H2 e2 t3 hd2 => ?_
    subst e2
    have s2 := s1.step t3
    obtain ⟨h1, h2, rfl⟩ := den_tab.mp hd2
    have TA := (s2.w.t t ht).1
    obtain ⟨us, u1, u2, u3⟩ := TA.hl
    have nla : t.l ≠ t.a := fun z => by
      have := TA.ha
      rw [← z, u1] at this
      cases this
    have nba : t.b ≠ t.a := fun z => by
      have := TA.ha
      rw [← z, TA.hb] at this
      cases this
    refine ⟨t.a, t.c, t.dx, _, rfl, TA.ha, by rw [h2]; exact k_Table T, by rw [h2]; exact no_Table_unit T, by show 5 < 1000; decide, n σ B2 _ (t1.b.trans t3.b) ?_⟩
    rw [den_int.mp hd]
    refine s2.retab (t' := { t with unit := i }) ht rfl rfl rfl rfl (.inl rfl) h0 ⟨TA.a, TA.l, TA.b, upd_same, ⟨us, by rw [upd_ne nla]; exact u1, u2, u3⟩, by rw [upd_ne nba]; exact TA.hb, TA.ne⟩ hΓ)
/-- self.basis[i] = e -/
theorem hs_tabbas {i n : Int} {k : Nat} {p2 : Pos} (ht : J.tab = some t) (ha : Ev X J Γ a (· = .tbs t)) (hidx : Ev X J Γ idx (· = .int i)) (he : Ev X J Γ e (· = .int n)) (hi : ixN t.basis.length i = some k) (h0 : H0 t.b = none) (hΓ : ReG t { t with basis := t.basis.set k n } Γ Γ')
    (hs : swapsWithSole [.Subscript a idx p2] e pos.line X.env = pure false := by rfl) (hw : swappedStores [.Subscript a idx p2] e X.env = pure none := by rfl) (hone : (assignEach [.Subscript a idx p2] X.env).map (·.2) = [assign (.Subscript a idx p2) X.env] := by rfl)
    (has : ∀ v, assign (.Subscript a idx p2) X.env v = (do
      let ov ← holding [v] (eval a X.env)
      let iv ← holding [v, ov] (eval idx X.env)
      standAt p2
      holding [v, ov, iv] (setItem ov iv v)
      release [v, ov, iv] []) := by intro _; rfl) :
    HS X (.Assign [.Subscript a idx p2] e pos) (SX X J B0 H0 Γ []) (SX X (J.with { t with basis := t.basis.set k n }) B0 H0 Γ' []) R := fun σ B H s E nx _ =>
  ofS (ps_asg wpE.pe (pg_sub wpE.pe wpE.pe set_list has) hs hw hone) (he σ B H s.w s.fit _ fun d v B1 H1 pd t1 hd => by
    subst pd
    have s1 := s.step t1
    refine ha σ _ H1 s1.w s1.fit _ fun d2 v2 B2 H2 e2 t3 hd2 => ?_
    subst e2
    have s2 := s1.step t3
    obtain ⟨h1, rfl⟩ := den_tbs.mp hd2
    refine hidx σ B2 H2 s2.w s2.fit _ fun d3 v3 B3 H3 e3 t4 hd3 => ?_
    subst e3
    have s3 := s2.step t4
    have TA := (s3.w.t t ht).1
    obtain ⟨us, u1, u2, u3⟩ := TA.hl
    have nba : t.a ≠ t.b := fun z => by
      have := TA.ha
      rw [z, TA.hb] at this
      cases this
    refine ⟨t.b, _, i, k, rfl, den_int.mp hd3, TA.hb, by rw [List.length_map]; exact hi, nx σ B3 _ ((t1.b.trans t3.b).trans t4.b) ?_⟩
    rw [den_int.mp hd]
    refine s3.retab (t' := { t with basis := t.basis.set k n }) ht rfl rfl rfl rfl (.inr (.inr rfl)) h0 ⟨TA.a, TA.l, TA.b, by rw [upd_ne nba]; exact TA.ha, ⟨us, by rw [upd_ne TA.ne]; exact u1, u2, u3⟩, ?_, TA.ne⟩ hΓ
    rw [upd_same, List.map_set])
end
end Z
end
section
set_option Elab.async false
set_option linter.all false
set_option maxRecDepth 100000
set_option maxHeartbeats 2000000
namespace Z
open PySem PySem.Spec PyProof.Rows L2
theorem dec_vint {i j : Int} : decide (V.int i = V.int j) = decide (i = j) := by simp
theorem ent1 {α : Type} (xs : List α) (d : α) : xs.map some ++ List.replicate 0 none = xs.map some := by simp
section
variable {P : Program} {w : World} {K : PySem.W.Frag} {mg : Str → Option Value} {base : Heap}
theorem ok_is_integer (T : Fac K mg) : Ok P w K mg base "is_integer" 1 ["value"] (Pm K (fun a : Int => [.int a]) (fun _ => True) (fun _ d => d = .bl true)) := by
  refine okD (f_is_integer T) (g_is_integer T) c_is_integer (fun _ => rfl) ?_
  intro cdv Ar outer s E J B H a hr _
  refine hb_ret (x_and (x_isi (T := "int") (r := true) (x_var 0) rfl (by decide +kernel) (b_isinstance T) (b_int T) (by decide +kernel)) (fun _ => x_not (x_isi (T := "bool") (r := false) (x_var 0) rfl (by decide +kernel) (b_isinstance T) (b_bool T) (by decide +kernel))) (fun h => by cases h)) fun _ e => e
theorem ok_is_between (T : Fac K mg) : Ok P w K mg base "is_between" 2 ["value", "low", "high"] (Pm K (fun a : Int × Int × Int => [.int a.1, .int a.2.1, .int a.2.2]) (fun _ => True) (fun a d => d = .bl (decide (a.2.1 ≤ a.1) && decide (a.1 ≤ a.2.2)))) := by
  refine okD (f_is_between T) (g_is_between T) c_is_between (fun _ => rfl) ?_
  intro cdv Ar outer s E J B H a hr _
  exact hb_ret (x_and (x_fnD (ok_is_integer T) a.1 hr (a_cons (x_var 0) a_nil) trivial) (fun _ => x_chain (x_var 1) (x_var 0) (x_var 2)) (fun h => by cases h)) fun _ e => e
theorem ok_common_divisor (T : Fac K mg) : Ok P w K mg base "common_divisor" 1 ["one", "other"] (Pm K (fun a : Int × Int => [.int a.1, .int a.2]) (fun _ => True) (fun a d => d = .int (gcdI a.1 a.2))) := by
  refine okD (f_common_divisor T) (g_common_divisor T) c_common_divisor (fun _ => rfl) ?_
  intro cdv Ar outer s E J B H a hr _
  refine hb_par2 0 1 (x_blt call_abs (b_abs T) (by decide +kernel) (a_cons (x_var 0) a_nil) (fun _ e => by subst e; exact c_abs rfl)) (x_blt call_abs (b_abs T) (by decide +kernel) (a_cons (x_var 1) a_nil) (fun _ e => by subst e; exact c_abs rfl)) ?_ c_common_divisor.nd
  refine hb_while (α := Int × Int) (fun q => 0 ≤ q.1 ∧ 0 ≤ q.2 ∧ gcdI q.1 q.2 = gcdI a.1 a.2) (fun q => [some (.int q.1), some (.int q.2)]) (fun _ => []) (fun q => q.2.toNat) (fun q b => b = !decide (V.int q.2 = V.int 0)) (if a.1 < 0 then -a.1 else a.1, if a.2 < 0 then -a.2 else a.2)
    ⟨by show 0 ≤ (if a.1 < 0 then -a.1 else a.1); split <;> omega, by show 0 ≤ (if a.2 < 0 then -a.2 else a.2); split <;> omega, gcd_abs a.1 a.2⟩ (fun _ _ _ s => s) (fun q _ => t_ne (x_var 1) x_int) (fun q hq ht => ?_) (fun q hq ht => ?_) PassesOwn.never
  · have hne : q.2 ≠ 0 := fun z => by
      rw [dec_vint, z] at ht
      cases ht
    obtain ⟨h0, h1, h2⟩ := hq
    have hpos : 0 < q.2 := by omega
    refine hb_par2 0 1 (x_var 1) (x_mod (x_var 0) (x_var 1) hpos) (hb_nil fun σ B H s => ⟨(q.2, q.1 % q.2), ⟨h1, Int.emod_nonneg _ hne, (gcd_step q.1 q.2 h0 hpos).trans h2⟩, ?_, s⟩) c_common_divisor.nd
    have := Int.emod_lt_of_pos q.1 hpos
    show (q.1 % q.2).toNat < q.2.toNat
    omega
  · have hz : q.2 = 0 := by
      rw [dec_vint] at ht
      simpa using ht
    obtain ⟨h0, h1, h2⟩ := hq
    rw [hz, gcd_zero _ h0] at h2
    exact hb_ret (x_var 0) fun d e => by rw [e, h2]
theorem ok_lowest (T : Fac K mg) : Ok P w K mg base "lowest" 2 ["top", "bottom"] (Pm K (fun a : Int × Int => [.int a.1, .int a.2]) (fun a => Sz 8000 a) (fun a d => d = frD (low a.1 a.2))) := by
  refine okD (f_lowest T) (g_lowest T) c_lowest (fun _ => rfl) ?_
  intro cdv Ar outer s E J B H a hr hs
  have hc : CDivW a.1 (gcdI a.1 a.2) ∧ CDivW a.2 (gcdI a.1 a.2) := by
    have hg := gcd_pos (t := a.1) hs.2.1
    have hle := Int.le_of_dvd hs.2.1 (gcd_dvd a.1 a.2).2
    have hb : (gcdI a.1 a.2).natAbs < 2 ^ 8000 := Nat.lt_of_le_of_lt (by omega) hs.2.2
    exact ⟨wide_div hg hb (by decide) (by decide), wide_div hg hb (by decide) (by decide)⟩
  refine hb_set 2 (x_fnD (ok_common_divisor T) a hr (a_cons (x_var 0) (a_cons (x_var 1) a_nil)) trivial) ?_ c_lowest.nd
  exact hb_ret (x_tup (a_cons (x_div (x_var 0) (x_var 2) hc.1) (a_cons (x_div (x_var 1) (x_var 2) hc.2) a_nil))) fun _ e => e
theorem ok_plus (T : Fac K mg) : Ok P w K mg base "plus" 3 ["one", "other"] (Pm K (fun a : Fr × Fr => [frD a.1, frD a.2]) (fun a => Sz 3900 a.1 ∧ Sz 3900 a.2) (fun a d => d = frD (fplus a.1 a.2))) := by
  refine okD (f_plus T) (g_plus T) c_plus (fun _ => rfl) ?_
  intro cdv Ar outer s E J B H a hr ⟨h1, h2⟩
  refine hb_ret (x_fnD (ok_lowest T) (a.1.1 * a.2.2 + a.2.1 * a.1.2, a.1.2 * a.2.2) hr (a_cons (x_add (x_mul (x_ixT (x_var 0) x_int rfl) (x_ixT (x_var 1) x_int rfl) ?_) (x_mul (x_ixT (x_var 1) x_int rfl) (x_ixT (x_var 0) x_int rfl) ?_)) (a_cons (x_mul (x_ixT (x_var 0) x_int rfl) (x_ixT (x_var 1) x_int rfl) ?_) a_nil)) ?_) fun _ e => e
  · exact wide_mul h1.1 h2.2.2 (by decide) (by decide) (by decide)
  · exact wide_mul h2.1 h1.2.2 (by decide) (by decide) (by decide)
  · exact wide_mul h1.2.2 h2.2.2 (by decide) (by decide) (by decide)
  · exact ⟨bd_mono (bd_add (bd_mul h1.1 h2.2.2) (bd_mul h2.1 h1.2.2)) (by decide), Int.mul_pos h1.2.1 h2.2.1, bd_mono (bd_mul h1.2.2 h2.2.2) (by decide)⟩
theorem ok_greater_of (T : Fac K mg) : Ok P w K mg base "greater_of" 2 ["one", "other"] (Pm K (fun a : Fr × Fr => [frD a.1, frD a.2]) (fun a => Sz 10000 a.1 ∧ Sz 10000 a.2) (fun a d => d = frD (if fless a.1 a.2 then a.2 else a.1))) := by
  refine okD (f_greater_of T) (g_greater_of T) c_greater_of (fun _ => rfl) ?_
  intro cdv Ar outer s E J B H a hr h
  refine hb_ret (P := fun d => d = frD (if fless a.1 a.2 then a.2 else a.1)) (x_if (t_bl (x_fnD (ok_is_less T) a hr (a_cons (x_var 0) (a_cons (x_var 1) a_nil)) h)) (fun e => (x_var 1).is ?_) (fun e => (x_var 0).is ?_)) fun _ e => e
  · rw [← e]; rfl
  · rw [← e]; rfl
theorem ok_lesser_of (T : Fac K mg) : Ok P w K mg base "lesser_of" 2 ["one", "other"] (Pm K (fun a : Fr × Fr => [frD a.1, frD a.2]) (fun a => Sz 10000 a.1 ∧ Sz 10000 a.2) (fun a d => d = frD (if fless a.2 a.1 then a.2 else a.1))) := by
  refine okD (f_lesser_of T) (g_lesser_of T) c_lesser_of (fun _ => rfl) ?_
  intro cdv Ar outer s E J B H a hr h
  refine hb_ret (P := fun d => d = frD (if fless a.2 a.1 then a.2 else a.1)) (x_if (t_bl (x_fnD (ok_is_less T) (a.2, a.1) hr (a_cons (x_var 1) (a_cons (x_var 0) a_nil)) ⟨h.2, h.1⟩)) (fun e => (x_var 1).is ?_) (fun e => (x_var 0).is ?_)) fun _ e => e
  · rw [← e]; rfl
  · rw [← e]; rfl
end
end Z
end
section
set_option Elab.async false
set_option linter.all false
set_option maxRecDepth 100000
set_option maxHeartbeats 2000000
namespace Z
open PySem PySem.Spec PyProof.Rows L2 RZ
theorem atI_nat {α : Type} {xs : List α} {k : Nat} : atI xs (k : Int) = xs[k]? := by
  unfold atI ixN
  rw [if_pos (by omega)]
  by_cases h : k < xs.length
  · rw [if_pos (by omega)]
    show xs[((k : Nat) : Int).toNat]? = _
    rw [Int.toNat_natCast]
  · rw [if_neg (by omega)]
    show none = _
    exact (List.getElem?_eq_none (by omega)).symm
theorem atI_last {α : Type} {xs : List α} {x : α} : atI (xs ++ [x]) (-1) = some x := by
  unfold atI ixN
  rw [if_neg (by omega), if_pos (by rw [List.length_append]; simp only [List.length_cons, List.length_nil]; omega)]
  show (xs ++ [x])[(-1 + ((xs ++ [x]).length : Int)).toNat]? = _
  have : (-1 + ((xs ++ [x]).length : Int)).toNat = xs.length := by
    rw [List.length_append]
    simp only [List.length_cons, List.length_nil]
    omega
  rw [this, List.getElem?_append_right (Nat.le_refl _), Nat.sub_self]
  rfl
section
variable {X : Cx} {J : Jx} {B0 H0 : Hp} {Γ Γ' : Gam} {O O' : Own} {N M : Sp3} {R : Rp} {st : Stmt} {rest body : List Stmt} {e c a b idx iter : Expr} {es : List Expr} {pos : Pos} {P : D → Prop} {d : D}
/-- for i in range(n) -/
theorem hb_forN {α : Type} {x : Str} {px p pos2 : Pos} (slot : Nat) {n : Int} (Pf : Nat → α → Prop) (Γf : Nat → α → Gam) (Of : Nat → α → Own) (x0 : α) (h : Ev X J Γ e (· = .int n)) (hnn : -(2 ^ 62) ≤ n ∧ n < 2 ^ 62) (hm : X.mg "range" = none)
    (h0 : Pf 0 x0) (hs0 : ∀ σ B H, SX X J B0 H0 Γ O σ B H → SX X J B0 H0 (Γf 0 x0) (Of 0 x0) σ B H) (hO : ∀ i x, ∀ q ∈ Of i x, q.1 ≠ slot)
    (hb : ∀ (i : Nat) x, i < n.toNat → Pf i x → HB X body (SX X J B0 H0 ((Γf i x).set slot (some (.int (i : Nat)))) (Of i x)) (fun σ B H => ∃ x', Pf (i + 1) x' ∧ SX X J B0 H0 (Γf (i + 1) x') (Of (i + 1) x') σ B H) R)
    (hn : ∀ x, Pf n.toNat x → HB X rest (SX X J B0 H0 (Γf n.toNat x) (Of n.toNat x)) N R) (hp : PassesOwn (model X.prog X.w) X.A X.env X.xe) (hN : X.N.Nodup) (hi : X.N[slot]? = some x := by rfl) (hx : Loc X.env.scope x := by first | exact Or.inl rfl | exact Or.inr rfl) (hf : X.fn x = true ∨ X.env.scope.names.lookup x = some .local := by first | exact .inl rfl | exact .inr rfl)
    (hc : X.calm = true := by rfl) (hg : Gl X "range" := by rfl) (hs : starEach [e] X.env = [(false, eval e X.env)] := by rfl) (hfs : ∀ z, foldedSetIterable (.Call (.Name "range" p) [e] [] pos2) X.env z = pure z := by intro _; rfl) :
    HB X (.For (.Name x px) (.Call (.Name "range" p) [e] [] pos2) body [] pos :: rest) (SX X J B0 H0 Γ O) N R := by
  refine hb_for (PI := fun ds => ds = (List.range n.toNat).map fun (i : Nat) => D.int (i : Int)) (sl := [slot]) (fun d Γ => Γ.set slot (some d)) (fun _ => Pf) (fun _ => Γf) (fun _ => Of) x0 (i_range1 h hnn hm hg hs) (fun ds _ => ⟨h0, hs0⟩) (fun ds _ i d _ => tg_name slot hN hi hx hf) (fun ds i x q hq => by simpa using hO i x q hq) (fun ds hds i d x hd px => ?_) (fun ds hds x px => ?_) hp hc hfs
  · subst hds
    rw [List.getElem?_map] at hd
    by_cases hlt : i < n.toNat
    · rw [List.getElem?_range hlt] at hd
      have : D.int (i : Int) = d := Option.some.inj hd
      subst this
      exact hb i x hlt px
    · rw [List.getElem?_eq_none (by simpa using hlt)] at hd
      cases hd
  · have e : ds.length = n.toNat := by rw [hds, List.length_map, List.length_range]
    rw [e] at px ⊢
    exact hn x px
end
/-! ### the table as the tableau of a basis -/
open LP (Prob)
def rowT (p : Prob) (b : LP.St) (i : Nat) : List Int := (List.range p.n).map (LP.tt p b i) ++ [LP.tt p b i p.n]
def rowO (p : Prob) (b : LP.St) : List Int := (List.range p.n).map (LP.ob p b) ++ [LP.ob p b p.n]
def linesOf (p : Prob) (b : LP.St) : List (List Int) := (List.range p.m).map (rowT p b) ++ [rowO p b]
def basOf (p : Prob) (b : LP.St) : List Int := (List.range p.m).map fun i => (LP.bi b i : Int)
structure TabIs (t : TabC) (p : Prob) (b : LP.St) : Prop where
  rows : t.rows = linesOf p b
  unit : t.unit = LP.dd p b
  bas : t.basis = basOf p b
  many : t.many = p.m
  size : t.size + p.m = p.n
/-- bounds on the columns -/
structure Bnd (p : Prob) : Prop where
  n : p.n ≤ 1000
  m : p.m ≤ 3
  col : ∀ j, (p.col j).1.natAbs < 2 ^ 21 ∧ (p.col j).2.1.natAbs < 2 ^ 21 ∧ (p.col j).2.2.natAbs < 2 ^ 21
  c : ∀ j, (p.c0 j).natAbs < 2 ^ 2
theorem det_bd {a b c : LP.V3} (ha : a.1.natAbs < 2 ^ 21 ∧ a.2.1.natAbs < 2 ^ 21 ∧ a.2.2.natAbs < 2 ^ 21) (hb : b.1.natAbs < 2 ^ 21 ∧ b.2.1.natAbs < 2 ^ 21 ∧ b.2.2.natAbs < 2 ^ 21) (hc : c.1.natAbs < 2 ^ 21 ∧ c.2.1.natAbs < 2 ^ 21 ∧ c.2.2.natAbs < 2 ^ 21) : (LP.det3 a b c).natAbs < 2 ^ 66 := by
  unfold LP.det3
  have m1 := bd_sub (bd_mul hb.2.1 hc.2.2) (bd_mul hb.2.2 hc.2.1)
  have m2 := bd_sub (bd_mul hb.1 hc.2.2) (bd_mul hb.2.2 hc.1)
  have m3 := bd_sub (bd_mul hb.1 hc.2.1) (bd_mul hb.2.1 hc.1)
  exact bd_mono (bd_add (bd_sub (bd_mul ha.1 m1) (bd_mul ha.2.1 m2)) (bd_mono (bd_mul ha.2.2 m3) (by decide : 21 + (21 + 21 + 1) ≤ 65))) (by decide)
theorem tt_bd {p : Prob} (h : Bnd p) (b : LP.St) (i j : Nat) : (LP.tt p b i j).natAbs < 2 ^ 66 := by
  unfold LP.tt
  split <;> exact det_bd (h.col _) (h.col _) (h.col _)
theorem dd_bd {p : Prob} (h : Bnd p) (b : LP.St) : (LP.dd p b).natAbs < 2 ^ 66 := det_bd (h.col _) (h.col _) (h.col _)
theorem ob_bd {p : Prob} (h : Bnd p) (b : LP.St) (j : Nat) : (LP.ob p b j).natAbs < 2 ^ 72 := by
  unfold LP.ob
  have k : ∀ i x, (p.c0 i * LP.tt p b x j).natAbs < 2 ^ 68 := fun i x => bd_mul (h.c i) (tt_bd h b x j)
  have k0 : (p.c0 j * LP.dd p b).natAbs < 2 ^ 68 := bd_mul (h.c j) (dd_bd h b)
  exact bd_mono (bd_sub (bd_sub (bd_sub k0 (k _ _)) (bd_mono (k _ _) (by decide : 68 ≤ 69))) (bd_mono (k _ _) (by decide : 68 ≤ 70))) (by decide)
section
variable {p : Prob} {b : LP.St} {t : TabC}
theorem at_line (h : TabIs t p b) {i : Nat} (hi : i < p.m) : atI t.rows (i : Int) = some (rowT p b i) := by
  rw [atI_nat, h.rows, linesOf, List.getElem?_append_left (by simpa using hi), List.getElem?_map, List.getElem?_range hi]
  rfl
theorem at_lastline (h : TabIs t p b) : atI t.rows (-1) = some (rowO p b) := by
  rw [h.rows, linesOf, atI_last]
theorem at_tt {i j : Nat} (hj : j ≤ p.n) : atI ((rowT p b i).map D.int) (j : Int) = some (.int (LP.tt p b i j)) := by
  rw [atI_nat, rowT, List.getElem?_map]
  by_cases h : j < p.n
  · rw [List.getElem?_append_left (by simpa using h), List.getElem?_map, List.getElem?_range h]
    rfl
  · have : j = p.n := by omega
    subst this
    rw [List.getElem?_append_right (by simp), List.length_map, List.length_range, Nat.sub_self]
    rfl
theorem at_ttl {i : Nat} : atI ((rowT p b i).map D.int) (-1) = some (.int (LP.tt p b i p.n)) := by
  rw [rowT, List.map_append]
  exact atI_last
theorem at_ob {j : Nat} (hj : j ≤ p.n) : atI ((rowO p b).map D.int) (j : Int) = some (.int (LP.ob p b j)) := by
  rw [atI_nat, rowO, List.getElem?_map]
  by_cases h : j < p.n
  · rw [List.getElem?_append_left (by simpa using h), List.getElem?_map, List.getElem?_range h]
    rfl
  · have : j = p.n := by omega
    subst this
    rw [List.getElem?_append_right (by simp), List.length_map, List.length_range, Nat.sub_self]
    rfl
theorem at_obl : atI ((rowO p b).map D.int) (-1) = some (.int (LP.ob p b p.n)) := by
  rw [rowO, List.map_append]
  exact atI_last
theorem at_bas (h : TabIs t p b) {i : Nat} (hi : i < p.m) : atI t.basis (i : Int) = some ((LP.bi b i : Nat) : Int) := by
  rw [atI_nat, h.bas, basOf, List.getElem?_map, List.getElem?_range hi]
  rfl
end
/-- a place, or None -/
def oD : Option Nat → D
  | none => .non
  | some k => .int (k : Nat)
/-- a table's arguments -/
structure TA where
  t : TabC
  p : Prob
  b : LP.St
structure TOk (a : TA) : Prop where
  i : TabIs a.t a.p a.b
  bd : Bnd a.p
  iv : LP.Inv a.p a.b
section
variable {P : Program} {w : World} {K : PySem.W.Frag} {mg : Str → Option Value} {base : Heap}
theorem ok_entering (T : Fac K mg) : OkA P w K mg base 1 (He.ma K (He.ga K "Table") "entering") ["self"] (Pm K (fun a : TA => [.tab a.t]) TOk (fun a d => d = oD (LP.ent a.p a.b))) := by
  refine okA (f_Table_entering T) c_Table_entering (fun _ => rfl) ?_
  intro cdv Ar outer s E J B H a hr ⟨hi, hb, iv⟩
  have hn := hb.n
  have hm := hb.m
  refine hb_set 1 (x_ixln (x_lines T (x_var 0)) (x_neg x_int) (at_lastline hi)) ?_ c_Table_entering.nd
  refine hb_forN (α := Unit) 2 (n := (a.t.size : Int) + (a.t.many : Int)) (fun i _ => ∀ j, j < i → 0 ≤ LP.ob a.p a.b j) (fun i _ => [some (.tab a.t), some (.lst ((rowO a.p a.b).map D.int)), none]) (fun _ _ => []) () (x_add (x_size T (x_var 0)) (x_many T (x_var 0))) (by have := hi.size; have := hi.many; omega) (b_range T)
    (fun j hj => absurd hj (Nat.not_lt_zero _)) (fun _ _ _ s => s) (fun _ _ q hq => by cases hq) (fun i _ hlt hP => ?_) (fun _ hP => ?_) PassesOwn.never c_Table_entering.nd
  · have hin : i < a.p.n := by have := hi.size; have := hi.many; omega
    refine hb_ifR (t_lt (x_ixL (x_var 1) (x_var 2) (at_ob (Nat.le_of_lt hin))) x_int) (fun hlt0 => hb_ret (x_var 2) fun d hd => ?_) (fun hge => hb_nil fun σ B H s => ⟨(), fun j hj => ?_, s.sub ?_⟩)
    · subst hd
      have h0 : LP.ob a.p a.b i < 0 := by simpa using hlt0.symm
      have : LP.ent a.p a.b = some i := by
        unfold LP.ent
        rw [List.find?_range_eq_some]
        exact ⟨by simpa using h0, by simpa using hin, fun j hj => by simpa using hP j hj⟩
      rw [this]
      rfl
    · have h0 : ¬ LP.ob a.p a.b i < 0 := by simpa using hge.symm
      by_cases e : j = i
      · subst e
        omega
      · exact hP j (by omega)
    · exact sub_same (sub_same (sub_none sub_nil))
  · have e : ((a.t.size : Int) + (a.t.many : Int)).toNat = a.p.n := by have := hi.size; have := hi.many; omega
    rw [e] at hP
    refine hb_ret x_non fun d hd => ?_
    subst hd
    have : LP.ent a.p a.b = none := by
      unfold LP.ent
      rw [List.find?_eq_none]
      intro j hj
      have := hP j (by simpa using hj)
      simpa using this
    rw [this]
    rfl
end
end Z
end
section
set_option Elab.async false
set_option linter.all false
set_option maxRecDepth 100000
set_option maxHeartbeats 2000000
namespace Z
open PySem PySem.Spec PyProof.Rows L2 RZ
theorem mulW70 {i j : Int} (hi : i.natAbs < 2 ^ 80) (hj : j.natAbs < 2 ^ 80) : CMulW i j := wide_mul hi hj (by decide) (by decide) (by decide)
section
variable {P : Program} {w : World} {K : PySem.W.Frag} {mg : Str → Option Value} {base : Heap}
theorem tt80 {p : LP.Prob} (h : Bnd p) (b : LP.St) (i j : Nat) : (LP.tt p b i j).natAbs < 2 ^ 80 := bd_mono (tt_bd h b i j) (by decide)
theorem ob80 {p : LP.Prob} (h : Bnd p) (b : LP.St) (j : Nat) : (LP.ob p b j).natAbs < 2 ^ 80 := bd_mono (ob_bd h b j) (by decide)
theorem dd80 {p : LP.Prob} (h : Bnd p) (b : LP.St) : (LP.dd p b).natAbs < 2 ^ 80 := bd_mono (dd_bd h b) (by decide)
theorem ok_is_ahead (T : Fac K mg) : OkA P w K mg base 1 (He.ma K (He.ga K "Table") "is_ahead") ["self", "index", "other", "place"] (Pm K (fun a : TA × Nat × Nat × Nat => [.tab a.1.t, .int a.2.1, .int a.2.2.1, .int a.2.2.2]) (fun a => TOk a.1 ∧ a.2.1 < a.1.p.m ∧ a.2.2.1 < a.1.p.m ∧ a.2.2.2 ≤ a.1.p.n)
    (fun a d => d = .bl (LP.ahead a.1.p a.1.b a.2.2.2 a.2.1 a.2.2.1))) := by
  refine okA (f_Table_is_ahead T) c_Table_is_ahead (fun _ => rfl) ?_
  intro cdv Ar outer s E J B H a hr ⟨⟨hi, hb, iv⟩, h1, h2, h3⟩
  refine hb_set 4 (x_mul (x_ixL (x_ixln (x_lines T (x_var 0)) (x_var 1) (at_line hi h1)) (x_neg x_int) at_ttl) (x_ixL (x_ixln (x_lines T (x_var 0)) (x_var 2) (at_line hi h2)) (x_var 3) (at_tt h3)) (mulW70 (tt80 hb _ _ _) (tt80 hb _ _ _))) ?_ c_Table_is_ahead.nd
  refine hb_set 5 (x_mul (x_ixL (x_ixln (x_lines T (x_var 0)) (x_var 2) (at_line hi h2)) (x_neg x_int) at_ttl) (x_ixL (x_ixln (x_lines T (x_var 0)) (x_var 1) (at_line hi h1)) (x_var 3) (at_tt h3)) (mulW70 (tt80 hb _ _ _) (tt80 hb _ _ _))) ?_ c_Table_is_ahead.nd
  refine hb_ret (P := fun d => d = .bl (LP.ahead a.1.p a.1.b a.2.2.2 a.2.1 a.2.2.1)) (x_or (x_lt (x_var 4) (x_var 5)) (fun hf => (x_and (x_eq (x_var 4) (x_var 5)) (fun hq => (x_lt (x_ixbs (x_basis T (x_var 0)) (x_var 1) (at_bas hi h1)) (x_ixbs (x_basis T (x_var 0)) (x_var 2) (at_bas hi h2))).is ?_) (fun hq => ?_))) (fun ht => ?_)) fun _ e => e
  · unfold LP.ahead
    rw [hf]
    rw [dec_vint] at hq
    rw [hq]
    have : decide (((LP.bi a.1.b a.2.1 : Nat) : Int) < ((LP.bi a.1.b a.2.2.1 : Nat) : Int)) = decide (LP.bi a.1.b a.2.1 < LP.bi a.1.b a.2.2.1) := decide_eq_decide.mpr (by omega)
    rw [this]
    rfl
  · unfold LP.ahead
    rw [dec_vint] at hq
    rw [hf, hq]
    rfl
  · unfold LP.ahead
    rw [ht]
    rfl
theorem leav_step_lt {p : LP.Prob} {b : LP.St} {s i : Nat} {f : Option Nat} (h : ∀ x, f = some x → x < i) : ∀ x, LP.leavStep p b s f i = some x → x < i + 1 := by
  intro x hx
  unfold LP.leavStep at hx
  split at hx
  · cases f with
    | none =>
      have : i = x := Option.some.inj hx
      omega
    | some y =>
      have hy := h y rfl
      have hx : (if LP.ahead p b s i y = true then some i else some y) = some x := hx
      split at hx
      · have : i = x := Option.some.inj hx
        omega
      · have : y = x := Option.some.inj hx
        omega
  · have := h x hx
    omega
theorem ok_leaving (T : Fac K mg) : OkA P w K mg base 2 (He.ma K (He.ga K "Table") "leaving") ["self", "place"] (Pm K (fun a : TA × Nat => [.tab a.1.t, .int a.2]) (fun a => TOk a.1 ∧ a.2 < a.1.p.n)
    (fun a d => d = oD (LP.leav a.1.p a.1.b a.2))) := by
  refine okA (f_Table_leaving T) c_Table_leaving (fun _ => rfl) ?_
  intro cdv Ar outer s E J B H a hr ⟨⟨hi, hb, iv⟩, h3⟩
  have hm := hb.m
  have hmm : (a.1.t.many : Int).toNat = a.1.p.m := by have := hi.many; omega
  refine hb_set 2 x_non ?_ c_Table_leaving.nd
  refine hb_forN (α := Option Nat) 3 (n := (a.1.t.many : Int)) (fun i f => f = (List.range i).foldl (LP.leavStep a.1.p a.1.b a.2) none ∧ ∀ x, f = some x → x < i) (fun i f => [some (.tab a.1.t), some (.int a.2), some (oD f), none, none]) (fun _ _ => []) none (x_many T (x_var 0)) (by have := hi.many; omega) (b_range T)
    ⟨rfl, fun _ h => by cases h⟩ (fun _ _ _ s => s) (fun _ _ q hq => by cases hq) (fun i f hlt hP => ?_) (fun f hP => ?_) PassesOwn.never c_Table_leaving.nd
  · obtain ⟨hf, hfl⟩ := hP
    have him : i < a.1.p.m := by omega
    refine hb_set 4 (x_ixL (x_ixln (x_lines T (x_var 0)) (x_var 3) (at_line hi him)) (x_var 1) (at_tt (Nat.le_of_lt h3))) ?_ c_Table_leaving.nd
    have key : ∀ f', LP.leavStep a.1.p a.1.b a.2 f i = f' → (f' = (List.range (i + 1)).foldl (LP.leavStep a.1.p a.1.b a.2) none ∧ ∀ x, f' = some x → x < i + 1) := fun f' e => by
      subst e
      refine ⟨?_, leav_step_lt hfl⟩
      rw [List.range_succ, List.foldl_append, ← hf]
      rfl
    refine hb_cons (M := fun σ B' H' => ∃ f', LP.leavStep a.1.p a.1.b a.2 f i = f' ∧ SX _ J B H [some (.tab a.1.t), some (.int a.2), some (oD f'), none, none] [] σ B' H') (hs_if (PT := fun c => c = (decide (0 < LP.tt a.1.p a.1.b i a.2) && (match f with | none => true | some y => LP.ahead a.1.p a.1.b a.2 i y)))
      (t_and (PA := fun c => c = decide (0 < LP.tt a.1.p a.1.b i a.2)) (t_gt (x_var 4) x_int) (fun hgt => ?_) (fun hgt => ?_)) (fun hc => ?_) (fun hc => ?_)) (.ex fun f' => hb_nil fun σ B' H' ⟨e, s'⟩ => ⟨f', key f' e, s'⟩)
    · rw [← hgt]
      cases f with
      | none => exact t_or (PA := fun c => c = true) ((t_isN (x := oD none) (x_var 2)).weak fun _ e => e) (fun z => by cases z) (fun _ => rfl)
      | some y =>
        refine t_or (PA := fun c => c = false) ((t_isN (x := oD (some y)) (x_var 2)).weak fun _ e => e) (fun _ => ?_) (fun z => by cases z)
        exact t_bl (x_meth T (me_Table_is_ahead T) (ok_is_ahead T) hr (by decide) (x_var 0) (a_cons (x_var 3) (a_cons (x_var 2) (a_cons (x_var 1) a_nil))) (a.1, i, y, a.2) rfl ⟨⟨hi, hb, iv⟩, him, Nat.lt_trans (hfl y rfl) him, Nat.le_of_lt h3⟩ (fun d hd => hd))
    · rw [← hgt]
      rfl
    · refine hb_set 2 (x_var 3) (hb_nil fun σ B' H' s' => ⟨some i, ?_, s'.sub (sub_same (sub_same (sub_same (sub_none (sub_none sub_nil)))))⟩) c_Table_leaving.nd
      have hc := hc.symm
      rw [Bool.and_eq_true] at hc
      unfold LP.leavStep
      rw [if_pos (by simpa using hc.1)]
      cases f with
      | none => rfl
      | some y => exact if_pos hc.2
    · refine hb_nil fun σ B' H' s' => ⟨f, ?_, s'.sub (sub_same (sub_same (sub_same (sub_none (sub_none sub_nil)))))⟩
      have hc := hc.symm
      unfold LP.leavStep
      by_cases h0 : 0 < LP.tt a.1.p a.1.b i a.2
      · rw [if_pos h0]
        rw [decide_eq_true h0, Bool.true_and] at hc
        cases f with
        | none => cases hc
        | some y =>
          have hc : LP.ahead a.1.p a.1.b a.2 i y = false := hc
          show (if LP.ahead a.1.p a.1.b a.2 i y = true then some i else some y) = some y
          rw [hc]
          rfl
      · rw [if_neg h0]
  · rw [hmm] at hP
    exact hb_ret (x_var 2) fun d hd => by rw [hd, hP.1]; rfl
end
end Z
end
section
set_option Elab.async false
set_option linter.all false
set_option maxRecDepth 100000
set_option maxHeartbeats 2000000
namespace Z
open PySem PySem.Spec PyProof.Rows L2 RZ
theorem blk (N : List Str) (sc : Scope) {scope : Scope} {own : List (Str × Nat)} (h1 : scope.kind = .function := by rfl) (h2 : ∀ y ∈ scope.names, scope.names.lookup y.1 = some y.2 := by decide +kernel) (h3 : ∀ p ∈ own, N[p.2]? = some p.1 := by decide +kernel)
    (h4 : ∀ y ∈ scope.names, y.2 = .free → sc.names.lookup y.1 = some .cell ∨ sc.names.lookup y.1 = some .free := by decide +kernel) (h5 : ∀ y ∈ scope.names, y.2 = .local ∨ y.2 = .cell → y.1 ∈ own.map (·.1) ∨ y.1 ∉ N := by decide +kernel) : BlkOk N sc scope own := ⟨h1, h2, h3, h4, h5⟩
section
variable {X : Cx} {J : Jx} {B0 H0 : Hp} {Γ Γ' : Gam} {O O' : Own} {N M : Sp3} {R : Rp} {st : Stmt} {rest body : List Stmt} {e c a b idx iter elt tg : Expr} {ifs es : List Expr} {pos : Pos} {P : D → Prop} {d : D} {scope : Scope}
theorem Made.all {α β : Type} {g : α → β} {xs : List α} {ys : List β} (h : Made (fun _ => true) (fun x y => y = g x) xs ys) : ys = xs.map g := by
  have := h.map
  rw [List.filter_eq_self.mpr fun _ _ => rfl] at this
  exact this
/-- [g x for x in xs] -/
theorem o_lc {α : Type} (own : List (Str × Nat)) (sl : List Nat) {xs : List α} (c : α → D) (f : α → Gam → Gam) (g : α → D) (hi : EvI X J Γ tg iter (· = xs.map c)) (hN : X.N.Nodup) (ok : BlkOk X.N X.env.scope scope own) (hl : xs.length ≤ 100000)
    (hx : ∀ x ∈ xs, ∀ Y, Blk X scope Y → Tg Y J tg (c x) sl (f x) ∧ Ev Y J (f x (wipeG Γ (own.map (·.2)))) elt (· = g x)) (hsl : ∀ k ∈ sl, k ∈ own.map (·.2) := by simp) (hc : X.calm = true := by rfl) (hs : ∀ x, foldedSetIterable iter X.env x = pure x := by intro _; rfl) :
    EvO X J Γ (.ListComp elt [⟨tg, iter, [], 0⟩] scope pos) (· = xs.map g) :=
  lcP c f (fun _ => true) (fun x y => y = g x) hi hN ok hsl (fun ds e => ⟨xs, e, hl, fun x hm Y hY => ⟨(hx x hm Y hY).1, ts_nil, fun _ => (hx x hm Y hY).2⟩, fun ys hy => hy.all⟩) hc hs
/-- [g x for x in xs if keep x] -/
theorem o_lcI {α : Type} (own : List (Str × Nat)) (sl : List Nat) {xs : List α} (c : α → D) (f : α → Gam → Gam) (keep : α → Bool) (g : α → D) (hi : EvI X J Γ tg iter (· = xs.map c)) (hN : X.N.Nodup) (ok : BlkOk X.N X.env.scope scope own) (hl : xs.length ≤ 100000)
    (hx : ∀ x ∈ xs, ∀ Y, Blk X scope Y → Tg Y J tg (c x) sl (f x) ∧ EvT Y J (f x (wipeG Γ (own.map (·.2)))) e (· = keep x) ∧ (keep x = true → Ev Y J (f x (wipeG Γ (own.map (·.2)))) elt (· = g x))) (hsl : ∀ k ∈ sl, k ∈ own.map (·.2) := by simp) (hc : X.calm = true := by rfl) (hs : ∀ x, foldedSetIterable iter X.env x = pure x := by intro _; rfl) :
    EvO X J Γ (.ListComp elt [⟨tg, iter, [e], 0⟩] scope pos) (· = (xs.filter keep).map g) :=
  lcP c f keep (fun x y => y = g x) hi hN ok hsl (fun ds e => ⟨xs, e, hl, fun x hm Y hY => ⟨(hx x hm Y hY).1, ts_one (hx x hm Y hY).2.1, (hx x hm Y hY).2.2⟩, fun ys hy => hy.map⟩) hc hs
/-- y = [g x for x in xs] -/
theorem hb_lcf {α : Type} (n : Nat) (own : List (Str × Nat)) (sl : List Nat) {xs : List α} (c : α → D) (f : α → Gam → Gam) (g : α → D) {y : Str} {py spos : Pos} (hi : EvI X J Γ tg iter (· = xs.map c)) (hN : X.N.Nodup) (ok : BlkOk X.N X.env.scope scope own) (hl : xs.length ≤ 100000)
    (hx : ∀ x ∈ xs, ∀ Y, Blk X scope Y → Tg Y J tg (c x) sl (f x) ∧ Ev Y J (f x (wipeG Γ (own.map (·.2)))) elt (· = g x)) (k : HB X rest (SX X J B0 H0 (Γ.set n none) ((n, xs.map g) :: O')) N R) (hO : ∀ q ∈ O', q ∈ O ∧ q.1 ≠ n) (hn : n < Γ.length) (hsl : ∀ k ∈ sl, k ∈ own.map (·.2) := by simp) (hy : X.N[n]? = some y := by rfl) (hyl : X.env.scope.names.lookup y = some .local := by rfl)
    (hsw : swapsWith (.ListComp elt [⟨tg, iter, [], 0⟩] scope pos) (some (.Name y py)) spos.line X.env = pure true := by first | rfl | exact sw_true rfl rfl rfl rfl) (hc : X.calm = true := by rfl) (hs : ∀ x, foldedSetIterable iter X.env x = pure x := by intro _; rfl) :
    HB X (.Assign [.Name y py] (.ListComp elt [⟨tg, iter, [], 0⟩] scope pos) spos :: rest) (SX X J B0 H0 Γ O) N R :=
  hb_lc n (PL := (· = xs.map g)) c f (fun _ => true) (fun x y => y = g x) hi hN ok hsl (fun ds e => ⟨xs, e, hl, fun x hm Y hY => ⟨(hx x hm Y hY).1, ts_nil, fun _ => (hx x hm Y hY).2⟩, fun ys hy => hy.all⟩) (fun ds e => by subst e; exact k) hO hn hy hyl hsw hc hs
end
theorem sz80 {x : Int} {y : Int} (hx : x.natAbs < 2 ^ 80) (hy : y.natAbs < 2 ^ 80) (h : 0 < y) : Sz 8000 (x, y) := ⟨bd_mono hx (by decide), h, bd_mono hy (by decide)⟩
theorem range_map {n : Nat} : ((List.range n).map fun (i : Nat) => D.int (i : Int)) = (List.range n).map fun (i : Nat) => D.int (i : Int) := rfl
section
variable {P : Program} {w : World} {K : PySem.W.Frag} {mg : Str → Option Value} {base : Heap}
theorem ok_multiples_now (T : Fac K mg) : OkA P w K mg base 3 (He.ma K (He.ga K "Table") "multiples_now") ["self"] (Pm K (fun a : TA => [.tab a.t]) TOk (fun a d => ∃ ds, d = .lst ds)) := by
  refine okA (f_Table_multiples_now T) c_Table_multiples_now (fun _ => rfl) ?_
  intro cdv Ar outer s E J B H a hr ⟨hi, hb, iv⟩
  have hm := hb.m
  have hn := hb.n
  refine hb_set 1 (x_ixln (x_lines T (x_var 0)) (x_neg x_int) (at_lastline hi)) ?_ c_Table_multiples_now.nd
  refine hb_ret (EvO.lst (o_lc [("k", 2)] [2] (fun (i : Nat) => D.int (i : Int)) (fun i Γ => Γ.set 2 (some (.int (i : Nat)))) (fun i => frD (low (LP.ob a.p a.b (a.t.size + i)) a.t.unit)) (i_range1 (x_many T (x_var 0)) (by have := hi.many; omega) (b_range T)) c_Table_multiples_now.nd (blk n_Table_multiples_now (defScope s_Table_multiples_now)) (by rw [List.length_range]; have := hi.many; omega) ?_)) (fun d e => ⟨_, e⟩)
  rintro i hi2 Y ⟨_, _, _, _, _, rfl⟩
  have him : i < a.p.m := by have := hi.many; have := List.mem_range.mp hi2; omega
  have hin : a.t.size + i < a.p.n := by have := hi.size; omega
  refine ⟨tg_name 2 c_Table_multiples_now.nd, x_fnD (ok_lowest T) (LP.ob a.p a.b (a.t.size + i), a.t.unit) hr (a_cons (x_ixL (i := ((a.t.size + i : Nat) : Int)) (x_var 1) ((x_add (x_size T (x_var 0)) (x_var 2)).is (by simp)) (at_ob (Nat.le_of_lt hin))) (a_cons (x_unit T (x_var 0)) a_nil)) ?_⟩
  rw [hi.unit]
  exact sz80 (ob80 hb _ _) (dd80 hb _) iv.pos
end
end Z
end
section
set_option Elab.async false
set_option linter.all false
set_option maxRecDepth 100000
set_option maxHeartbeats 2000000
namespace Z
open PySem PySem.Spec PyProof.Rows L2 RZ
section
variable {X : Cx} {J : Jx} {B0 H0 : Hp} {Γ Γ' : Gam} {O O' : Own} {N M : Sp3} {R : Rp} {st : Stmt} {rest body : List Stmt} {e c a b idx iter elt tg : Expr} {ifs es : List Expr} {pos : Pos} {P : D → Prop} {d : D} {scope : Scope}
theorem HB.and {p : Prop} {S0 : Sp3} {sts : List Stmt} (h : p → HB X sts S0 N R) : HB X sts (fun σ B H => p ∧ S0 σ B H) N R := fun σ B H ⟨hp, s⟩ => h hp σ B H s
/-- a for over told data -/
theorem hb_forX {α β : Type} (sl : List Nat) {xs : List β} (c : β → D) (f : β → Gam → Gam) (Pf : Nat → α → Prop) (Γf : Nat → α → Gam) (Of : Nat → α → Own) (x0 : α) (hi : EvI X J Γ tg iter (· = xs.map c))
    (h0 : Pf 0 x0) (hs0 : ∀ σ B H, SX X J B0 H0 Γ O σ B H → SX X J B0 H0 (Γf 0 x0) (Of 0 x0) σ B H) (ht : ∀ x ∈ xs, Tg X J tg (c x) sl (f x)) (hO : ∀ i x, ∀ q ∈ Of i x, q.1 ∉ sl)
    (hb : ∀ (i : Nat) x y, xs[i]? = some x → Pf i y → HB X body (SX X J B0 H0 (f x (Γf i y)) (Of i y)) (fun σ B H => ∃ y', Pf (i + 1) y' ∧ SX X J B0 H0 (Γf (i + 1) y') (Of (i + 1) y') σ B H) R)
    (hn : ∀ y, Pf xs.length y → HB X rest (SX X J B0 H0 (Γf xs.length y) (Of xs.length y)) N R) (hp : PassesOwn (model X.prog X.w) X.A X.env X.xe) (hc : X.calm = true := by rfl) (hs : ∀ x, foldedSetIterable iter X.env x = pure x := by intro _; rfl) :
    HB X (.For tg iter body [] pos :: rest) (SX X J B0 H0 Γ O) N R :=
  hb_cons (M := fun σ B H => ∃ y, Pf xs.length y ∧ SX X J B0 H0 (Γf xs.length y) (Of xs.length y) σ B H)
    (fun σ B H s E n r => ofS (ps_for hp hc wpI.pi wpG.pg wpSs.pss hs) (hi σ B H s.w s.fit _ fun ds T B1 H1 pd s1 it => by
      subst pd
      have it' := it.wk
      rw [List.length_map] at it'
      refine for_it it' (fun i σ' H' => ∃ B', Same B1 B' ∧ ∃ x, Pf i x ∧ SX X J B0 H0 (Γf i x) (Of i x) σ' B' H') ⟨B1, .refl _, x0, h0, hs0 σ B1 H1 (s.step s1)⟩ (fun i σ' H' _ ⟨B', e, x, _, s'⟩ => ⟨B', s'.w, e⟩) (fun i x σ' H' H2 hi ⟨B', e, c1, pc, s'⟩ y => ?_) (fun σ' H' ⟨B', e, x, px, s'⟩ => n σ' B' H' (s1.b.trans e) ⟨x, px, s'⟩)
      obtain ⟨B2, d, ed, t, hd⟩ := y B' s'.w e
      rw [List.getElem?_map] at ed
      obtain ⟨x', hx', rfl⟩ : ∃ x', xs[i]? = some x' ∧ c x' = d := by
        cases e : xs[i]? with
        | none => rw [e] at ed; cases ed
        | some x' => rw [e] at ed; exact ⟨x', rfl, Option.some.inj ed⟩
      have s2 := s'.step t
      refine ht x' (List.mem_of_getElem? hx') σ' B2 H2 x _ s2.w s2.fit hd _ fun σ3 f1 f3 f4 => ?_
      have s3 := s2.tgt f1 f3 (hO i c1)
      exact hb i x' c1 hx' pc σ3 B2 H2 s3 _ (fun σ4 B4 H4 e4 ⟨x', px', s4⟩ => ⟨B4, (e.trans t.b).trans e4, x', px', s4⟩) fun v B4 H4 e4 => r v B4 H4 (((s1.b.trans e).trans t.b).trans e4)))
    (.ex fun y σ B H ⟨py, s⟩ => hn y py σ B H s)
/-- (a, b) = a pair -/
theorem tg_pair (i j : Nat) {d1 d2 : D} {x y : Str} {p1 p2 p3 : Pos} {k : Nat} (hN : X.N.Nodup) (hi : X.N[i]? = some x := by rfl) (hj : X.N[j]? = some y := by rfl) (hx : Loc X.env.scope x := by first | exact Or.inl rfl | exact Or.inr rfl) (hy : Loc X.env.scope y := by first | exact Or.inl rfl | exact Or.inr rfl)
    (hf : X.fn x = true ∨ X.env.scope.names.lookup x = some .local := by first | exact .inl rfl | exact .inr rfl) (hf2 : X.fn y = true ∨ X.env.scope.names.lookup y = some .local := by first | exact .inl rfl | exact .inr rfl) (hc : X.calm = true := by rfl) :
    Tg X J (.Tuple [.Name x p1, .Name y p2] k p3) (.tup [d1, d2]) [i, j] (fun Γ => (Γ.set i (some d1)).set j (some d2)) :=
  tg_tup (tgs_cons (tg_name i hN hi hx hf) (tgs_cons (tg_name j hN hj hy hf2) tgs_nil)) hc
end
section
variable {P : Program} {w : World} {K : PySem.W.Frag} {mg : Str → Option Value} {base : Heap}
theorem low_ok {a : TA} (h : TOk a) (i j : Nat) : Sz 8000 (LP.tt a.p a.b i j, a.t.unit) := by
  rw [h.i.unit]
  exact sz80 (tt80 h.bd _ _ _) (dd80 h.bd _) h.iv.pos
theorem bas_at {a : TA} (h : TOk a) {i : Nat} {q : Int × Nat} (e : a.t.basis.zipIdx[i]? = some q) : i < a.p.m ∧ q.2 = i ∧ q.1 = (LP.bi a.b i : Nat) := by
  rw [List.getElem?_zipIdx, h.i.bas, basOf, List.getElem?_map] at e
  by_cases hi : i < a.p.m
  · rw [List.getElem?_range hi] at e
    have e : (((LP.bi a.b i : Nat) : Int), 0 + i) = q := Option.some.inj e
    subst e
    exact ⟨hi, Nat.zero_add i, rfl⟩
  · rw [List.getElem?_eq_none (by simpa using hi)] at e
    cases e
theorem rep_len (n : Nat) (x : D) : (List.replicate ((n : Nat) : Int).toNat [x]).flatten.length = n := by
  simp
theorem ok_numbers_now (T : Fac K mg) : OkA P w K mg base 3 (He.ma K (He.ga K "Table") "numbers_now") ["self"] (Pm K (fun a : TA => [.tab a.t]) TOk (fun a d => ∃ ds, d = .lst ds)) := by
  refine okA (f_Table_numbers_now T) c_Table_numbers_now (fun _ => rfl) ?_
  intro cdv Ar outer s E J B H a hr h
  obtain ⟨hi, hb, iv⟩ := id h
  have hm := hb.m
  have hn := hb.n
  refine hb_own (O' := []) 1 (o_rep (o_lst (a_cons (x_tup (a_cons x_int (a_cons x_int a_nil))) a_nil)).lst (x_size T (x_var 0)) (by have := hi.size; omega) (by decide)) ?_ (fun _ h => by cases h) (by show 1 < 4; decide) c_Table_numbers_now.nd
  intro ds0 e0
  refine hb_forX (α := List D) [2, 3] (fun q : Int × Nat => D.tup [.int (q.2 : Nat), .int q.1]) (fun q Γ => (Γ.set 2 (some (.int (q.2 : Nat)))).set 3 (some (.int q.1))) (fun _ ds => ds.length = a.t.size) (fun _ ds => [some (.tab a.t), none, none, none]) (fun _ ds => [(1, ds)]) ds0 (i_enumbs (x_basis T (x_var 0)) (b_enumerate T))
    (by rw [e0]; exact rep_len _ _) (fun _ _ _ s => s) (fun q _ => tg_pair 2 3 c_Table_numbers_now.nd) (fun i ds q hq => by simp at hq; subst hq; simp) (fun i q ds hq hl => ?_) (fun ds hl => ?_) PassesOwn.never
  · obtain ⟨him, h2, h1⟩ := bas_at h hq
    refine hb_cons (M := fun σ B' H' => ∃ ds', ds'.length = a.t.size ∧ SX _ J B H [some (.tab a.t), none, none, none] [(1, ds')] σ B' H') (hs_if (t_lt (x_var 3) (x_size T (x_var 0))) (fun hc => ?_) (fun hc => ?_)) (.ex fun ds' => hb_nil fun σ B' H' ⟨e, s'⟩ => ⟨ds', e, s'⟩)
    · have hlt : q.1 < (a.t.size : Int) := by simpa using hc.symm
      refine hb_setix 1 (k := q.1) (x_fnD (ok_lowest T) (LP.tt a.p a.b i a.p.n, a.t.unit) hr (a_cons (x_ixL (x_ixln (i := (i : Int)) (x_lines T (x_var 0)) ((x_var 2).is (by rw [h2])) (at_line hi him)) (x_neg x_int) at_ttl) (a_cons (x_unit T (x_var 0)) a_nil)) (low_ok h _ _)) (x_var 3) (by rw [h1]; omega) (by rw [hl]; omega) (fun d _ => hb_nil fun σ B' H' s' => ⟨ds.set q.1.toNat d, by rw [List.length_set]; exact hl, s'.sub (sub_same (sub_none (sub_none (sub_none sub_nil)))) (by simp)⟩)
    · exact hb_nil fun σ B' H' s' => ⟨ds, hl, s'.sub (sub_same (sub_none (sub_none (sub_none sub_nil)))) (by simp)⟩
  · exact hb_frz (hb_ret (x_var 1) fun d e => ⟨_, e⟩)
theorem ok_way_of (T : Fac K mg) : OkA P w K mg base 3 (He.ma K (He.ga K "Table") "way_of") ["self", "place"] (Pm K (fun a : TA × Nat => [.tab a.1.t, .int a.2]) (fun a => TOk a.1 ∧ a.2 < a.1.p.n) (fun a d => ∃ ds, d = .lst ds)) := by
  refine okA (f_Table_way_of T) c_Table_way_of (fun _ => rfl) ?_
  intro cdv Ar outer s E J B H a hr ⟨h, hlt⟩
  obtain ⟨hi, hb, iv⟩ := id h
  have hm := hb.m
  have hn := hb.n
  refine hb_own (O' := []) 2 (o_rep (o_lst (a_cons (x_tup (a_cons x_int (a_cons x_int a_nil))) a_nil)).lst (x_size T (x_var 0)) (by have := hi.size; omega) (by decide)) ?_ (fun _ h => by cases h) (by show 2 < 5; decide) c_Table_way_of.nd
  intro ds0 e0
  have l0 : ds0.length = a.1.t.size := by rw [e0]; exact rep_len _ _
  refine hb_cons (M := fun σ B' H' => ∃ ds', ds'.length = a.1.t.size ∧ SX _ J B H [some (.tab a.1.t), some (.int a.2), none, none, none] [(2, ds')] σ B' H') (hs_if (t_lt (x_var 1) (x_size T (x_var 0))) (fun hc => ?_) (fun hc => hb_nil fun σ B' H' s' => ⟨ds0, l0, s'⟩)) (.ex fun ds1 => ?_)
  · have hlt : (a.2 : Int) < (a.1.t.size : Int) := by simpa using hc.symm
    exact hb_setix 2 (k := (a.2 : Nat)) (x_tup (a_cons x_int (a_cons x_int a_nil))) (x_var 1) (by omega) (by rw [l0]; omega) (fun d _ => hb_nil fun σ B' H' s' => ⟨ds0.set ((a.2 : Nat) : Int).toNat d, by rw [List.length_set]; exact l0, s'⟩)
  refine .and fun l1 => ?_
  refine hb_forX (α := List D) [3, 4] (fun q : Int × Nat => D.tup [.int (q.2 : Nat), .int q.1]) (fun q Γ => (Γ.set 3 (some (.int (q.2 : Nat)))).set 4 (some (.int q.1))) (fun _ ds => ds.length = a.1.t.size) (fun _ ds => [some (.tab a.1.t), some (.int a.2), none, none, none]) (fun _ ds => [(2, ds)]) ds1 (i_enumbs (x_basis T (x_var 0)) (b_enumerate T))
    l1 (fun _ _ _ s => s) (fun q _ => tg_pair 3 4 c_Table_way_of.nd) (fun i ds q hq => by simp at hq; subst hq; simp) (fun i q ds hq hl => ?_) (fun ds hl => ?_) PassesOwn.never
  · obtain ⟨him, h2, h1⟩ := bas_at h hq
    refine hb_cons (M := fun σ B' H' => ∃ ds', ds'.length = a.1.t.size ∧ SX _ J B H [some (.tab a.1.t), some (.int a.2), none, none, none] [(2, ds')] σ B' H') (hs_if (t_lt (x_var 4) (x_size T (x_var 0))) (fun hc => ?_) (fun hc => ?_)) (.ex fun ds' => hb_nil fun σ B' H' ⟨e, s'⟩ => ⟨ds', e, s'⟩)
    · have hlt : q.1 < (a.1.t.size : Int) := by simpa using hc.symm
      refine hb_setix 2 (k := q.1) (x_fnD (ok_lowest T) (-LP.tt a.1.p a.1.b i a.2, a.1.t.unit) hr (a_cons (x_neg (x_ixL (x_ixln (i := (i : Int)) (x_lines T (x_var 0)) ((x_var 3).is (by rw [h2])) (at_line hi him)) (x_var 1) (at_tt (Nat.le_of_lt (by assumption))))) (a_cons (x_unit T (x_var 0)) a_nil)) ?_) (x_var 4) (by rw [h1]; omega) (by rw [hl]; omega) (fun d _ => hb_nil fun σ B' H' s' => ⟨ds.set q.1.toNat d, by rw [List.length_set]; exact hl, s'.sub (sub_same (sub_same (sub_none (sub_none (sub_none sub_nil))))) (by simp)⟩)
      rw [hi.unit]
      exact sz80 (by rw [Int.natAbs_neg]; exact tt80 hb _ _ _) (dd80 hb _) iv.pos
    · exact hb_nil fun σ B' H' s' => ⟨ds, hl, s'.sub (sub_same (sub_same (sub_none (sub_none (sub_none sub_nil))))) (by simp)⟩
  · exact hb_frz (hb_ret (x_var 2) fun d e => ⟨_, e⟩)
end
end Z
end
section
set_option Elab.async false
set_option linter.all false
set_option maxRecDepth 100000
set_option maxHeartbeats 2000000
namespace Z
open PySem PySem.Spec PyProof.Rows L2 RZ
/-! ### the turn: plain -/
def cell (p : LP.Prob) (b : LP.St) (i j : Nat) : Int := if i < p.m then LP.tt p b i j else LP.ob p b j
def rowAt (p : LP.Prob) (b : LP.St) (i : Nat) : List Int := (List.range (p.n + 1)).map (cell p b i)
theorem rowT_eq {p : LP.Prob} {b : LP.St} {i : Nat} (h : i < p.m) : rowT p b i = rowAt p b i := by
  unfold rowT rowAt
  rw [List.range_succ, List.map_append]
  have e : cell p b i = LP.tt p b i := by funext j; unfold cell; rw [if_pos h]
  rw [e]
  rfl
theorem rowO_eq {p : LP.Prob} {b : LP.St} : rowO p b = rowAt p b p.m := by
  unfold rowO rowAt
  rw [List.range_succ, List.map_append]
  have e : cell p b p.m = LP.ob p b := by funext j; unfold cell; rw [if_neg (Nat.lt_irrefl _)]
  rw [e]
  rfl
theorem lines_eq (p : LP.Prob) (b : LP.St) : linesOf p b = (List.range (p.m + 1)).map (rowAt p b) := by
  unfold linesOf
  rw [List.range_succ, List.map_append, rowO_eq]
  refine congrArg (· ++ _) (List.map_congr_left fun i hi => rowT_eq (List.mem_range.mp hi))
theorem cell_set {p : LP.Prob} {b : LP.St} {r s i j : Nat} (hm : p.m ≤ 3) (hr : r < p.m) (hi : i ≤ p.m) (h : i ≠ r) : LP.dd p b * cell p (LP.setb b r s) i j = LP.tt p b r s * cell p b i j - cell p b i s * LP.tt p b r j := by
  unfold cell
  by_cases h1 : i < p.m
  · rw [if_pos h1, if_pos h1, if_pos h1]
    exact LP.tt_set p (by omega) (by omega) h
  · rw [if_neg h1, if_neg h1, if_neg h1]
    exact LP.ob_set p (by omega)
/-- the rows when the first k are turned -/
def mid (p : LP.Prob) (b : LP.St) (r s k : Nat) : List (List Int) := (List.range (p.m + 1)).map fun i => if i < k ∧ i ≠ r then rowAt p (LP.setb b r s) i else rowAt p b i
theorem mid_zero (p : LP.Prob) (b : LP.St) (r s : Nat) : mid p b r s 0 = linesOf p b := by
  rw [lines_eq]
  refine List.map_congr_left fun i _ => ?_
  rw [if_neg (by omega)]
theorem mid_all {p : LP.Prob} {b : LP.St} {r s : Nat} (hm : p.m ≤ 3) (hr : r < p.m) : mid p b r s (p.m + 1) = linesOf p (LP.setb b r s) := by
  rw [lines_eq]
  refine List.map_congr_left fun i hi => ?_
  have := List.mem_range.mp hi
  by_cases h : i = r
  · subst h
    rw [if_neg (by omega)]
    unfold rowAt
    refine List.map_congr_left fun j _ => ?_
    unfold cell
    rw [if_pos hr, if_pos hr]
    exact (LP.tt_set_same p (by omega)).symm
  · rw [if_pos ⟨this, h⟩]
theorem mid_skip {p : LP.Prob} {b : LP.St} {r s : Nat} : mid p b r s (r + 1) = mid p b r s r := by
  refine List.map_congr_left fun i hi => ?_
  have e : (i < r + 1 ∧ i ≠ r) ↔ (i < r ∧ i ≠ r) := by omega
  simp only [e]
theorem mid_len (p : LP.Prob) (b : LP.St) (r s k : Nat) : (mid p b r s k).length = p.m + 1 := by simp [mid]
theorem mid_at {p : LP.Prob} {b : LP.St} {r s k i : Nat} (hi : i ≤ p.m) : (mid p b r s k)[i]? = some (if i < k ∧ i ≠ r then rowAt p (LP.setb b r s) i else rowAt p b i) := by
  unfold mid
  rw [List.getElem?_map, List.getElem?_range (by omega)]
  rfl
theorem mid_set {p : LP.Prob} {b : LP.St} {r s k : Nat} (hk : k ≤ p.m) (h : k ≠ r) : (mid p b r s k).set k (rowAt p (LP.setb b r s) k) = mid p b r s (k + 1) := by
  apply List.ext_getElem?
  intro i
  by_cases hi : i ≤ p.m
  · rw [mid_at hi]
    by_cases e : k = i
    · subst e
      rw [List.getElem?_set, if_pos rfl, if_pos (by rw [mid_len]; omega), if_pos ⟨by omega, h⟩]
    · rw [List.getElem?_set_ne e, mid_at hi]
      have e2 : (i < k ∧ i ≠ r) ↔ (i < k + 1 ∧ i ≠ r) := by omega
      simp only [e2]
  · rw [List.getElem?_eq_none (by rw [List.length_set, mid_len]; omega), List.getElem?_eq_none (by rw [mid_len]; omega)]
theorem new_row {p : LP.Prob} {b : LP.St} {r s k : Nat} (hd : 0 < LP.dd p b) (hm : p.m ≤ 3) (hr : r < p.m) (hk : k ≤ p.m) (h : k ≠ r) :
    ((rowAt p b k).zip (rowAt p b r)).map (fun q => D.int ((LP.tt p b r s * q.1 - cell p b k s * q.2) / LP.dd p b)) = (rowAt p (LP.setb b r s) k).map D.int := by
  unfold rowAt
  rw [List.zip_map', List.map_map, List.map_map]
  refine List.map_congr_left fun j _ => ?_
  show D.int ((LP.tt p b r s * cell p b k j - cell p b k s * cell p b r j) / LP.dd p b) = D.int (cell p (LP.setb b r s) k j)
  have e : cell p b r j = LP.tt p b r j := by unfold cell; rw [if_pos hr]
  rw [e, ← cell_set hm hr hk h, Int.mul_ediv_cancel_left _ (by omega)]
theorem cell80 {p : LP.Prob} (h : Bnd p) (b : LP.St) (i j : Nat) : (cell p b i j).natAbs < 2 ^ 80 := by
  unfold cell
  split
  · exact tt80 h b i j
  · exact ob80 h b j
theorem at_cell {p : LP.Prob} {b : LP.St} {i j : Nat} (hj : j ≤ p.n) : atI ((rowAt p b i).map D.int) (j : Int) = some (.int (cell p b i j)) := by
  rw [atI_nat, rowAt, List.map_map, List.getElem?_map, List.getElem?_range (by omega)]
  rfl
theorem row_mem {p : LP.Prob} {b : LP.St} {i : Nat} {x : Int} (h : Bnd p) (hx : x ∈ rowAt p b i) : x.natAbs < 2 ^ 80 := by
  obtain ⟨j, _, rfl⟩ := List.mem_map.mp hx
  exact cell80 h b i j
/-! ### the turn: the walk -/
/-- the heap without the table -/
def cutH (t : TabC) (H : Hp) : Hp := fun x => if x = t.a ∨ x = t.l ∨ x = t.b then none else H x
def spTurn (K : PySem.W.Frag) : Sp := fun vs H Q _ => ∃ (J : Jx) (B : Hp) (a : TA) (r s : Nat), W J B H ∧ J.tab = some a.t ∧ a.t.c = He.ga K "Table" ∧ vs = [.ref a.t.a, .int r, .int s] ∧ TOk a ∧ r < a.p.m ∧ s < a.p.n ∧ 0 < LP.tt a.p a.b r s ∧
  ∀ t' B' H', TabIs t' a.p (LP.setb a.b r s) → t'.a = a.t.a → t'.l = a.t.l → t'.b = a.t.b → t'.c = a.t.c → Stp (J.with t') B (cutH a.t H) B' H' → Q .non H'
theorem EvI.is {X : Cx} {J : Jx} {Γ : Gam} {tg e : Expr} {xs ys : List D} (h : EvI X J Γ tg e (· = xs)) (k : xs = ys) : EvI X J Γ tg e (· = ys) := k ▸ h
section
variable {P : Program} {w : World} {K : PySem.W.Frag} {mg : Str → Option Value} {base : Heap}
theorem ok_turn (T : Fac K mg) : OkA P w K mg base 1 (He.ma K (He.ga K "Table") "turn") ["self", "index", "place"] (spTurn K) := by
  obtain ⟨fd, F, b⟩ := f_Table_turn T
  refine ⟨fd, ?_, b⟩
  refine F.ok c_Table_turn (fun vs H Q E h => ?_) (fun cdv A outer sh H vs Q E hr h => ?_)
  · obtain ⟨J, B, a, r, s, _, _, _, e, _⟩ := h
    rw [e]
    rfl
  obtain ⟨J0, B, ⟨t, p, b⟩, r, s, hw, hJ, hc, rfl, h, hrm, hsn, hts, q⟩ := h
  obtain ⟨hi, hb, iv⟩ := id h
  dsimp only at hc hrm hsn hts hi hb iv q
  have hm := hb.m
  have hn := hb.n
  have hJ : J0.tab = some t := hJ
  obtain ⟨J, rfl⟩ : ∃ J : Jx, J0 = J.with t := ⟨J0, by cases J0; simp only at hJ; subst hJ; rfl⟩
  have TA := (hw.t t rfl).1
  refine ⟨_, wpSs.pss, ?_⟩
  have cut : ∀ x, cutH t H x ≠ none → (x ≠ t.a ∧ x ≠ t.l ∧ x ≠ t.b) ∧ cutH t H x = H x := fun x hx => by
    unfold cutH at hx ⊢
    by_cases z : x = t.a ∨ x = t.l ∨ x = t.b
    · rw [if_pos z] at hx
      exact absurd rfl hx
    · rw [if_neg z]
      exact ⟨⟨fun e => z (.inl e), fun e => z (.inr (.inl e)), fun e => z (.inr (.inr e))⟩, rfl⟩
  have ha0 : cutH t H t.a = none := by unfold cutH; rw [if_pos (.inl rfl)]
  have hl0 : cutH t H t.l = none := by unfold cutH; rw [if_pos (.inr (.inl rfl))]
  have hb0 : cutH t H t.b = none := by unfold cutH; rw [if_pos (.inr (.inr rfl))]
  have dn : Dens K (J.with t) [.tab t, .int r, .int s] B [.ref t.a, .int r, .int s] := dens_cons.mpr ⟨_, _, rfl, den_tab.mpr ⟨rfl, hc, rfl⟩, dens_cons.mpr ⟨_, _, rfl, den_int.mpr rfl, dens_cons.mpr ⟨_, _, rfl, den_int.mpr rfl, dens_nil.mpr rfl⟩⟩⟩
  have s0 : S K (J.with t) B (cutH t H) [some (.tab t), some (.int r), some (.int s), none, none, none, none, none, none, none] [] (L2.start n_Table_turn [.ref t.a, .int r, .int s]) B H := by
    have z := S.start (N := n_Table_turn) hw dn
    exact ⟨⟨.refl _, hw, fun x hx h1 h2 => ⟨h1, (cut x h2).2.symm⟩⟩, z.fit, fun q hq => (by cases hq), fun q hq => (by cases hq), z.len⟩
  refine (show HB (bx P w K mg base n_Table_turn "Table.turn" s_Table_turn (He.ma K (He.ga K "Table") "turn") cdv A outer sh H E) (defBody s_Table_turn) _ (fun _ B' H' => ∃ t', TabIs t' p (LP.setb b r s) ∧ t'.a = t.a ∧ t'.l = t.l ∧ t'.b = t.b ∧ t'.c = t.c ∧ Stp (J.with t') B (cutH t H) B' H') (fun _ _ _ => False) from ?_) _ B H s0 _ (fun σ' B' H' _ ⟨t', h1, h2, h3, h4, h5, h6⟩ => q t' B' H' h1 h2 h3 h4 h5 h6) (fun _ _ _ _ z => z.elim)
  have hst : LP.tt p b r s = cell p b r s := by unfold cell; rw [if_pos hrm]
  refine hb_set 3 (x_ixln (x_lines T (x_var 0)) (x_var 1) (at_line hi hrm)) ?_ c_Table_turn.nd
  rw [rowT_eq hrm]
  refine hb_set 4 (x_ixL (x_var 3) (x_var 2) (at_cell (Nat.le_of_lt hsn))) ?_ c_Table_turn.nd
  refine hb_forR (α := Unit) 5 (n := p.m + 1) (fun k _ => S K (J.with { t with rows := mid p b r s k }) B (cutH t H) [some (.tab { t with rows := mid p b r s k }), some (.int r), some (.int s), some (.lst ((rowAt p b r).map D.int)), some (.int (cell p b r s)), none, none, none, none, none] []) () (fun σ B1 H1 s1 R hR => ?_) (fun i _ hi2 => ?_) (fun _ => ?_) PassesOwn.never c_Table_turn.nd
  · refine i_range1R (x_add (x_many T (x_var 0)) x_int) (by have := hi.many; omega) (b_range T) s1.w s1.fit fun B2 H2 t2 => ?_
    have e : ((t.many : Int) + 1).toNat = p.m + 1 := by have := hi.many; omega
    rw [e]
    refine hR B2 H2 t2.b ?_
    have e2 : ({ t with rows := mid p b r s 0 } : TabC) = t := by rw [mid_zero, ← hi.rows]
    rw [e2]
    exact s1.step t2
  · have him : i ≤ p.m := by omega
    have atk : atI (mid p b r s i) (i : Int) = some (rowAt p b i) := by rw [atI_nat, mid_at him, if_neg (by omega)]
    refine HB.pre (S1 := S K (J.with { t with rows := mid p b r s i }) B (cutH t H) [some (.tab { t with rows := mid p b r s i }), some (.int r), some (.int s), some (.lst ((rowAt p b r).map D.int)), some (.int (cell p b r s)), some (.int (i : Nat)), none, none, none, none] []) ?_ (fun σ B1 H1 ⟨σ0, e, s1⟩ => by
      subst e
      exact s1.set (i := 5) (d := .int (i : Nat)) (O' := []) (den_int.mpr rfl) (fun _ h => by cases h))
    refine hb_cons (M := S K (J.with { t with rows := mid p b r s (i + 1) }) B (cutH t H) [some (.tab { t with rows := mid p b r s (i + 1) }), some (.int r), some (.int s), some (.lst ((rowAt p b r).map D.int)), some (.int (cell p b r s)), none, none, none, none, none] []) (hs_if (t_ne (x_var 5) (x_var 1)) (fun hq => ?_) (fun hq => ?_)) (hb_nil fun σ B1 H1 s1 => ⟨(), s1⟩)
    · have hne : i ≠ r := fun z => by
        rw [dec_vint, z] at hq
        simp at hq
      refine hb_set 6 (x_ixln (x_lines T (x_var 0)) (x_var 5) atk) ?_ c_Table_turn.nd
      refine hb_set 7 (x_ixL (x_var 6) (x_var 2) (at_cell (Nat.le_of_lt hsn))) ?_ c_Table_turn.nd
      refine hb_cons (hs_tabrow (t := { t with rows := mid p b r s i }) (i := (i : Nat)) (r := rowAt p (LP.setb b r s) i) (k := i) (Γ' := [some (.tab { t with rows := (mid p b r s i).set i (rowAt p (LP.setb b r s) i) }), some (.int r), some (.int s), some (.lst ((rowAt p b r).map D.int)), some (.int (cell p b r s)), none, none, none, none, none]) rfl (x_lines T (x_var 0)) (x_var 5) ?_ ?_ hl0 ?_) (hb_nil fun σ B1 H1 s1 => ?_)
      · rw [← new_row iv.pos hm hrm him hne]
        refine o_lc [("far", 8), ("near", 9)] [8, 9] (fun q : Int × Int => D.tup [.int q.1, .int q.2]) (fun q Γ => (Γ.set 8 (some (.int q.1))).set 9 (some (.int q.2))) (xs := (rowAt p b i).zip (rowAt p b r)) (fun q => D.int ((LP.tt p b r s * q.1 - cell p b i s * q.2) / LP.dd p b)) ((i_zip (x_var 6) (x_var 3) (b_zip T)).is ?_) c_Table_turn.nd (blk n_Table_turn (defScope s_Table_turn)) ?_ ?_
        · rw [List.zip_map, List.map_map]
          rfl
        · rw [List.length_zip]
          have : (rowAt p b i).length = p.n + 1 := by simp [rowAt]
          omega
        · rintro ⟨x, y⟩ hq2 Y ⟨_, _, _, _, _, rfl⟩
          have hx := row_mem hb (List.of_mem_zip hq2).1
          have hy := row_mem hb (List.of_mem_zip hq2).2
          refine ⟨tg_pair 8 9 c_Table_turn.nd, ?_⟩
          rw [hst, ← hi.unit]
          exact x_div (x_sub (x_mul (x_var 4) (x_var 8) (mulW70 (cell80 hb _ _ _) hx)) (x_mul (x_var 7) (x_var 9) (mulW70 (cell80 hb _ _ _) hy))) (x_unit (t := { t with rows := mid p b r s i }) T (x_var 0)) (by rw [show (TabC.unit { t with rows := mid p b r s i }) = LP.dd p b from hi.unit]; exact wide_div iv.pos (dd80 hb _) (by decide) (by decide))
      · show ixN (mid p b r s i).length (i : Nat) = some i
        unfold ixN
        rw [mid_len, if_pos (by omega), if_pos (by omega), Int.toNat_natCast]
      · exact reG_tab (reG_same (reG_same (reG_same (reG_same (reG_none (reG_none (reG_none (reG_none (reG_none reG_nil)))))) (by simp [nt, nts_ints]))))
      · have e : (mid p b r s i).set i (rowAt p (LP.setb b r s) i) = mid p b r s (i + 1) := mid_set him hne
        rw [← e]
        exact s1
    · have hne : i = r := by
        rw [dec_vint] at hq
        have : ((i : Nat) : Int) = (r : Nat) := by simpa using hq
        omega
      refine hb_nil fun σ B1 H1 s1 => ?_
      subst hne
      rw [mid_skip]
      exact s1.sub (sub_same (sub_same (sub_same (sub_same (sub_same (sub_none (sub_none (sub_none (sub_none (sub_none sub_nil))))))))))
  · refine hb_cons (hs_tabunit (t := { t with rows := mid p b r s (p.m + 1) }) (i := cell p b r s) (Γ' := [some (.tab { { t with rows := mid p b r s (p.m + 1) } with unit := cell p b r s }), some (.int r), some (.int s), none, none, none, none, none, none, none]) T rfl (x_var 0) (x_var 4) ha0 ?_) ?_
    · exact reG_tab (reG_same (reG_same (reG_none (reG_none (reG_none (reG_none (reG_none (reG_none (reG_none reG_nil)))))))))
    refine hb_cons (hs_tabbas (t := { { t with rows := mid p b r s (p.m + 1) } with unit := cell p b r s }) (i := (r : Nat)) (n := (s : Nat)) (k := r) (Γ' := [none, none, none, none, none, none, none, none, none, none]) rfl (x_basis T (x_var 0)) (x_var 1) (x_var 2) ?_ hb0 ?_) (hb_nil fun σ B1 H1 s1 => ?_)
    · show ixN t.basis.length (r : Nat) = some r
      rw [hi.bas]
      unfold ixN basOf
      rw [List.length_map, List.length_range, if_pos (by omega), if_pos (by omega), Int.toNat_natCast]
    · exact reG_none (reG_none (reG_none (reG_none (reG_none (reG_none (reG_none (reG_none (reG_none (reG_none reG_nil)))))))))
    · refine ⟨{ t with rows := mid p b r s (p.m + 1), unit := cell p b r s, basis := t.basis.set r ((s : Nat) : Int) }, ⟨mid_all hm hrm, ?_, ?_, hi.many, hi.size⟩, rfl, rfl, rfl, rfl, s1.st⟩
      · show cell p b r s = LP.dd p (LP.setb b r s)
        rw [LP.dd_set p (by omega), hst]
      · show t.basis.set r ((s : Nat) : Int) = basOf p (LP.setb b r s)
        rw [hi.bas]
        unfold basOf
        apply List.ext_getElem?
        intro j
        by_cases hj : j < p.m
        · rw [List.getElem?_map, List.getElem?_range hj]
          by_cases e : r = j
          · subst e
            rw [List.getElem?_set, if_pos rfl, if_pos (by simpa using hj)]
            show some ((s : Nat) : Int) = some ((LP.bi (LP.setb b r s) r : Nat) : Int)
            rw [LP.bi_set (by omega) (by omega), if_pos rfl]
          · rw [List.getElem?_set_ne e, List.getElem?_map, List.getElem?_range hj]
            show some ((LP.bi b j : Nat) : Int) = some ((LP.bi (LP.setb b r s) j : Nat) : Int)
            rw [LP.bi_set (by omega) (by omega), if_neg (Ne.symm e)]
        · rw [List.getElem?_eq_none (by simpa using Nat.le_of_not_lt hj), List.getElem?_eq_none (by simpa using Nat.le_of_not_lt hj)]
end
end Z
end
section
set_option Elab.async false
set_option linter.all false
set_option maxRecDepth 100000
set_option maxHeartbeats 2000000
namespace Z
open PySem PySem.Spec PyProof.Rows L2 RZ
/-! ### objects that are being made -/
structure Rs (J : Jx) (H0 : Hp) (x : Addr) (o : HO) (B H : Hp) : Prop where
  out : B x = none
  nj : ¬ J.has x
  new : H0 x = none
  at_ : H x = some o
theorem Rs.step {J : Jx} {H0 : Hp} {x : Addr} {o : HO} {B H B' H' : Hp} (r : Rs J H0 x o B H) (t : Stp J B H B' H') : Rs J H0 x o B' H' := by
  obtain ⟨e1, e2⟩ := t.own x (has_jar r.nj) r.out (by rw [r.at_]; intro z; cases z)
  exact ⟨e1, r.nj, r.new, e2.trans r.at_⟩
theorem Rs.oth {J : Jx} {H0 : Hp} {x y : Addr} {o o' : HO} {B H : Hp} (r : Rs J H0 x o B H) (ne : x ≠ y) : Rs J H0 x o B (upd H y o') := ⟨r.out, r.nj, r.new, by rw [upd_ne ne]; exact r.at_⟩
theorem Rs.chg {J : Jx} {H0 : Hp} {x : Addr} {o o' : HO} {B H : Hp} (r : Rs J H0 x o B H) : Rs J H0 x o' B (upd H x o') := ⟨r.out, r.nj, r.new, upd_same⟩
def Stb (J : Jx) (F : Hp → Hp → Prop) : Prop := ∀ B H B' H', F B H → Stp J B H B' H' → F B' H'
theorem stb_rs {J : Jx} {H0 : Hp} {x : Addr} {o : HO} : Stb J (Rs J H0 x o) := fun _ _ _ _ r t => r.step t
theorem stb_and {J : Jx} {F G : Hp → Hp → Prop} (f : Stb J F) (g : Stb J G) : Stb J (fun B H => F B H ∧ G B H) := fun _ _ _ _ h t => ⟨f _ _ _ _ h.1 t, g _ _ _ _ h.2 t⟩
theorem stb_ex {J : Jx} {α : Sort _} {F : α → Hp → Hp → Prop} (f : ∀ x, Stb J (F x)) : Stb J (fun B H => ∃ x, F x B H) := fun _ _ _ _ ⟨x, h⟩ t => ⟨x, f x _ _ _ _ h t⟩
theorem stb_den {J : Jx} {K : PySem.W.Frag} {d : D} {v : V} : Stb J (fun B _ => Den K J d B v) := fun _ _ _ _ h t => h.mono t.b
theorem stb_dens {J : Jx} {K : PySem.W.Frag} {d : List D} {v : List V} : Stb J (fun B _ => Dens K J d B v) := fun _ _ _ _ h t => h.mono t.b
theorem stb_p {J : Jx} {p : Prop} : Stb J (fun _ _ => p) := fun _ _ _ _ h _ => h
theorem S.mutF {K : PySem.W.Frag} {J : Jx} {B0 H0 B H : Hp} {Γ : Gam} {σ : L2.St} {x : Addr} {o o' : HO} (s : S K J B0 H0 Γ [] σ B H) (r : Rs J H0 x o B H) : S K J B0 H0 Γ [] σ B (upd H x o') :=
  ⟨⟨s.st.b, s.w.mut r.out r.nj, fun y hy h1 h2 => by
    have ne : y ≠ x := fun z => h2 (by rw [z]; exact r.new)
    obtain ⟨e1, e2⟩ := s.st.own y hy h1 h2
    exact ⟨e1, by rw [upd_ne ne]; exact e2⟩⟩, s.fit, fun q hq => (by cases hq), fun q hq => (by cases hq), s.len⟩
section
variable {X : Cx} {J : Jx} {B0 H0 : Hp} {Γ Γ' : Gam} {O O' : Own} {N M : Sp3} {R : Rp} {st : Stmt} {rest body : List Stmt} {e c a b idx iter elt tg : Expr} {ifs es : List Expr} {pos : Pos} {P : D → Prop} {d : D} {scope : Scope} {F G : Hp → Hp → Prop}
def SF (X : Cx) (J : Jx) (B0 H0 : Hp) (Γ : Gam) (F : Hp → Hp → Prop) : Sp3 := fun σ B H => SX X J B0 H0 Γ [] σ B H ∧ F B H
/-- what stands aside is kept -/
theorem HS.frame (h : ∀ B0 H0, HS X st (SX X J B0 H0 Γ []) (SX X J B0 H0 Γ' []) R) (hF : Stb J F) : HS X st (SF X J B0 H0 Γ F) (SF X J B0 H0 Γ' F) R := fun σ B H ⟨s, f⟩ E n r =>
  h B H σ B H ⟨.refl s.w, s.fit, fun q hq => (by cases hq), fun q hq => (by cases hq), s.len⟩ E (fun σ' B' H' e s' => n σ' B' H' e ⟨⟨s.st.trans s'.st, s'.fit, fun q hq => (by cases hq), fun q hq => (by cases hq), s'.len⟩, hF _ _ _ _ f s'.st⟩) r
theorem hs_fldF {x : Addr} {C dx : Addr} {fs : List (Str × V)} {f : Str} {p2 : Pos} (ha : Ev X J Γ a (· = .adr x)) (he : Ev X J Γ e P) (cl : Cls X.K C) (no : NoAttr X.K C f) (hl : fs.length < 1000) (hF : Stb J F) (hR : ∀ B H, F B H → Rs J H0 x (.ins C dx fs) B H)
    (hG : ∀ d v B H, P d → Den X.K J d B v → F B H → G B (upd H x (.ins C dx (putF f v fs)))) (hs : swapsWith e (some (.Attribute a f p2)) pos.line X.env = pure false := by rfl) : HS X (.Assign [.Attribute a f p2] e pos) (SF X J B0 H0 Γ F) (SF X J B0 H0 Γ G) R := fun σ B H ⟨s, fF⟩ E n _ =>
  ofS (ps_fld wpE.pe wpE.pe hs) (he σ B H s.w s.fit _ fun d v B1 H1 pd t1 hd => by
    have s1 := s.step t1
    refine ha σ B1 H1 s1.w s1.fit _ fun d2 v2 B2 H2 e2 t3 hd2 => ?_
    subst e2
    have s2 := s1.step t3
    have f2 := hF _ _ _ _ (hF _ _ _ _ fF t1) t3
    have r2 := hR _ _ f2
    exact ⟨x, C, dx, fs, den_adr.mp hd2, r2.at_, cl, no, hl, n σ B2 _ (t1.b.trans t3.b) ⟨s2.mutF r2, hG d v B2 H2 pd (hd.mono t3.b) f2⟩⟩)
theorem hs_fldO {x : Addr} {C dx : Addr} {fs : List (Str × V)} {f : Str} {p2 : Pos} {PL : List D → Prop} (ha : Ev X J Γ a (· = .adr x)) (he : EvO X J Γ e PL) (cl : Cls X.K C) (no : NoAttr X.K C f) (hl : fs.length < 1000) (hF : Stb J F) (hR : ∀ B H, F B H → Rs J H0 x (.ins C dx fs) B H)
    (hG : ∀ ds p vs B H, PL ds → Rs J H0 p (.lst vs) B H → x ≠ p → Dens X.K J ds B vs → F B H → (∀ y o, Rs J H0 y o B H → y ≠ p ∨ o = .lst vs) → G B (upd H x (.ins C dx (putF f (.ref p) fs)))) (hs : swapsWith e (some (.Attribute a f p2)) pos.line X.env = pure false := by rfl) : HS X (.Assign [.Attribute a f p2] e pos) (SF X J B0 H0 Γ F) (SF X J B0 H0 Γ G) R := fun σ B H ⟨s, fF⟩ E n _ =>
  ofS (ps_fld wpE.pe wpE.pe hs) (he σ B H s.w s.fit _ fun ds p vs B1 H1 pd t1 hp hb hj hv hd => by
    have s1 := s.step t1
    have rp : Rs J H0 p (.lst vs) B1 H1 := ⟨hb, hj, s.st.back2 hp, hv⟩
    refine ha σ B1 H1 s1.w s1.fit _ fun d2 v2 B2 H2 e2 t3 hd2 => ?_
    subst e2
    have s2 := s1.step t3
    have f2 := hF _ _ _ _ (hF _ _ _ _ fF t1) t3
    have r2 := hR _ _ f2
    have rp2 := rp.step t3
    have ne : x ≠ p := fun z => by
      have q := rp2.at_
      rw [← z, r2.at_] at q
      cases q
    exact ⟨x, C, dx, fs, den_adr.mp hd2, r2.at_, cl, no, hl, n σ B2 _ (t1.b.trans t3.b) ⟨s2.mutF r2, hG ds p vs B2 H2 pd rp2 ne (hd.mono t3.b) f2 fun y o r => by
      by_cases z : y = p
      · subst z
        have q := r.at_
        rw [rp2.at_] at q
        exact .inr (Option.some.inj q).symm
      · exact .inl z⟩⟩)
theorem hs_par2 (i j : Nat) {d1 d2 : D} {x y : Str} {px py pt : Pos} {kt k2 pt2} (h1 : Ev X J Γ a (· = d1)) (h2 : Ev X J Γ b (· = d2))
    (hN : X.N.Nodup) (hc : X.calm = true := by rfl) (hij : i ≠ j := by decide) (hi : X.N[i]? = some x := by rfl) (hj : X.N[j]? = some y := by rfl) (hx : X.env.scope.names.lookup x = some .local := by rfl) (hy : X.env.scope.names.lookup y = some .local := by rfl)
    (hw : swappedStores [.Tuple [.Name x px, .Name y py] kt pt] (.Tuple [a, b] k2 pt2) X.env = pure (some [x, y]) := by rfl) (hs : swapsWithSole [.Tuple [.Name x px, .Name y py] kt pt] (.Tuple [a, b] k2 pt2) pos.line X.env = pure false := by rfl)
    (hs1 : starEach [a, b] X.env = (false, eval a X.env) :: starEach [b] X.env := by rfl) (hs2 : starEach [b] X.env = (false, eval b X.env) :: starEach [] X.env := by rfl) :
    HS X (.Assign [.Tuple [.Name x px, .Name y py] kt pt] (.Tuple [a, b] k2 pt2) pos) (SX X J B0 H0 Γ []) (SX X J B0 H0 ((Γ.set i (some d1)).set j (some d2)) []) R :=
  fun σ B H s E n _ => ofS (ps_par hc hN hi hj hij hx hy (pa_cons wpE.pe (pa_cons wpE.pe pa_nil hs2) hs1) hw hs) (h1 σ B H s.w s.fit _ fun d v B1 H1 p t hd => h2 σ B1 H1 t.w (s.fit.mono t.b) _ fun d' u B2 H2 p2 t2 hd2 => by
    subst p p2
    exact ⟨v, u, rfl, n _ B2 H2 (t.trans t2).b (((s.step (t.trans t2)).set (O' := []) (hd.mono t2.b) (fun _ h => by cases h)).set hd2 (fun _ h => by cases h))⟩)
/-- a, b, .. = a tuple -/
theorem hs_unp {d : D} {sl : List Nat} {f : Gam → Gam} (h : Ev X J Γ e (· = d)) (ht : Tg X J tg d sl f) (hs : swapsWithSole [tg] e pos.line X.env = pure false := by rfl) (hw : swappedStores [tg] e X.env = pure none := by rfl)
    (h1 : (assignEach [tg] X.env).map (·.2) = [assign tg X.env] := by rfl) : HS X (.Assign [tg] e pos) (SX X J B0 H0 Γ []) (SX X J B0 H0 (f Γ) []) R := fun σ B H s E n _ =>
  ofS (ps_asg wpE.pe wpG.pg hs hw h1) (h σ B H s.w s.fit _ fun d v B1 H1 p t hd => by
      subst p
      have s1 := s.step t
      exact ht σ B1 H1 v Γ s1.w s1.fit hd _ fun σ3 f1 f3 f4 => n σ3 B1 H1 t.b (s1.tgt f1 f3 (fun q hq => (by cases hq))))
/-- an if that is not taken, an expression -/
theorem hb_ifRF (h : EvT X J Γ c (· = false)) (hF : Stb J F) (k : HB X rest (SF X J B0 H0 Γ F) N R) : HB X (.If c body [] pos :: rest) (SF X J B0 H0 Γ F) N R :=
  hb_cons (M := SF X J B0 H0 Γ F) (fun σ B H ⟨s, f⟩ E n r => ofS (ps_if wpT.pt wpSs.pss pss_nil) (h σ B H s.w s.fit _ fun b B1 H1 p t => by
      cases b with
      | true => cases p
      | false => exact iteF (n σ B1 H1 t.b ⟨s.step t, hF _ _ _ _ f t⟩))) k
theorem hb_exprF (h : Ev X J Γ e P) (hF : Stb J F) (k : HB X rest (SF X J B0 H0 Γ F) N R) (hs : swapsWith e none pos.line X.env = pure false := by rfl) : HB X (.Expr e pos :: rest) (SF X J B0 H0 Γ F) N R := hb_cons (M := SF X J B0 H0 Γ F)
  (fun σ B H ⟨s, f⟩ E n _ => ofS (ps_expr wpE.pe hs) (h σ B H s.w s.fit _ fun d v B1 H1 p t hd => n σ B1 H1 t.b ⟨s.step t, hF _ _ _ _ f t⟩)) k
/-- self.f.append(e) -/
theorem hs_appF {x p : Addr} {C dx : Addr} {fs : List (Str × V)} {f : Str} {vs : List V} {p1 p2 p3 : Pos} (ha : Ev X J Γ a (· = .adr x)) (he : Ev X J Γ e P) (cl : Cls X.K C) (no : NoAttr X.K C f) (hfs : fs.lookup f = some (.ref p)) (hl : ∀ B H, F B H → vs.length < 100000) (hF : Stb J F) (hR : ∀ B H, F B H → Rs J H0 x (.ins C dx fs) B H) (hR2 : ∀ B H, F B H → Rs J H0 p (.lst vs) B H)
    (hG : ∀ d v B H, P d → Den X.K J d B v → F B H → G B (upd H p (.lst (vs ++ [v])))) (hab : attributeBase a f X.env (eval a X.env) = eval a X.env := by rfl)
    (hs : swapsWith (.Call (.Attribute (.Attribute a f p1) "append" p2) [e] [] p3) none pos.line X.env = pure false := by rfl) (hse : starEach [e] X.env = (false, eval e X.env) :: starEach [] X.env := by rfl)
    (hb : attributeBase (.Attribute a f p1) "append" X.env (eval (.Attribute a f p1) X.env) = eval (.Attribute a f p1) X.env := by rfl) (hline : (p2.endLine == p3.line) = true := by rfl)
    (hfew : ((backTo p3 (starEach [e] X.env)).all (fun x => !x.1) && (backToKw p3 (keywordEach [] X.env)).all (fun x => x.1.isSome) && decide ([e].length + ([] : List Keyword).length + (if ([] : List Keyword).isEmpty then 0 else 1) < 30)) = true := by rfl)
    (hplain : (backTo p3 (starEach [] X.env)).any (·.1) = false := by rfl) :
    HS X (.Expr (.Call (.Attribute (.Attribute a f p1) "append" p2) [e] [] p3) pos) (SF X J B0 H0 Γ F) (SF X J B0 H0 Γ G) R := fun σ B H ⟨s, fF⟩ E n _ =>
  ofS (ps_expr (pe_bm PySem.F.plainAttrs_list PySem.F.slot_list_append PySem.F.type_list_append mt_append (pe_fld wpE.pe hab) (pa_cons wpE.pe pa_nil hse) hb hfew hline hse hplain) hs) (ha σ B H s.w s.fit _ fun d2 v2 B1 H1 e2 t1 hd2 => by
    subst e2
    have s1 := s.step t1
    have f1 := hF _ _ _ _ fF t1
    have r1 := hR _ _ f1
    have q1 := hR2 _ _ f1
    refine ⟨x, C, dx, fs, .ref p, den_adr.mp hd2, r1.at_, cl, no, hfs, .inl ⟨rfl, _, SqL.of q1.at_⟩, ?_⟩
    refine he σ B1 H1 s1.w s1.fit _ fun d v B2 H2 pd t2 hd => ?_
    have s2 := s1.step t2
    have f2 := hF _ _ _ _ f1 t2
    have q2 := hR2 _ _ f2
    exact ⟨p, vs, v, rfl, rfl, q2.at_, small' (hl _ _ f2), n σ B2 _ (t1.b.trans t2.b) ⟨s2.mutF q2, hG d v B2 H2 pd hd f2⟩⟩)
end
/-! ### Answer -/
def spAns (K : PySem.W.Frag) : Sp := fun vs Hc Q _ => ∃ (a dx : Addr) (x y z : V), vs = [.ref a, x, y, z] ∧ Hc a = some (.ins (ansC K) dx []) ∧ Q .non (upd Hc a (.ins (ansC K) dx [("value", x), ("numbers", y), ("multiples", z)]))
theorem upd_upd {H : Hp} {a : Addr} {o o' : HO} : upd (upd H a o) a o' = upd H a o' := by
  funext x
  by_cases h : x = a
  · subst h
    rw [upd_same, upd_same]
  · rw [upd_ne h, upd_ne h, upd_ne h]
section
variable {P : Program} {w : World} {K : PySem.W.Frag} {mg : Str → Option Value} {base : Heap}
theorem ok_Answer_init (T : Fac K mg) : OkA P w K mg base 1 (He.ma K (He.ga K "Answer") "__init__") ["self", "value", "numbers", "multiples"] (spAns K) := by
  obtain ⟨fd, F, b⟩ := f_Answer_init T
  refine ⟨fd, ?_, b⟩
  refine F.ok c_Answer_init (fun vs H Q E h => ?_) (fun cdv A outer sh H vs Q E hr h => ?_)
  · obtain ⟨a, dx, x, y, z, e, _⟩ := h
    rw [e]
    rfl
  obtain ⟨a, dx, x, y, z, rfl, ha, q⟩ := h
  refine ⟨_, pss_cons (ps_fld (pe_var (i := 0) rfl (Or.inl rfl)) (pe_var (i := 1) rfl (Or.inl rfl)) rfl) (pss_cons (ps_fld (pe_var (i := 0) rfl (Or.inl rfl)) (pe_var (i := 2) rfl (Or.inl rfl)) rfl) (pss_cons (ps_fld (pe_var (i := 0) rfl (Or.inl rfl)) (pe_var (i := 3) rfl (Or.inl rfl)) rfl) pss_nil)), ?_⟩
  refine ⟨x, rfl, .ref a, rfl, a, _, dx, [], rfl, ha, k_Answer T, no_Answer_value T, by decide, ?_⟩
  refine ⟨y, rfl, .ref a, rfl, a, _, dx, _, rfl, upd_same, k_Answer T, no_Answer_numbers T, by show 1 < 1000; decide, ?_⟩
  refine ⟨z, rfl, .ref a, rfl, a, _, dx, _, rfl, upd_same, k_Answer T, no_Answer_multiples T, by show 2 < 1000; decide, ?_⟩
  rw [upd_upd, upd_upd]
  exact q
end
section
variable {X : Cx} {J : Jx} {Γ : Gam} {e a b c : Expr} {es : List Expr} {pos : Pos} {P : D → Prop} {d : D}
/-- Answer(value, numbers, multiples) -/
theorem x_Answer {p : Pos} {k : Nat} {PS : List D → Prop} (T : Fac X.K X.mg) (hr : Room k X.A) (hk : 2 ≤ k) (ha : EvA X J Γ [a, b, c] PS) (q : ∀ ds, PS ds → ∃ x y z, ds = [x, y, z] ∧ P (.ans x)) (hg : Gl X "Answer" := by rfl) (he : starEach [a, b, c] X.env = (false, eval a X.env) :: starEach [b, c] X.env := by rfl) (hpl : (backTo pos (starEach [b, c] X.env)).any (·.1) = false := by rfl) :
    Ev X J Γ (.Call (.Name "Answer" p) [a, b, c] [] pos) P := fun σ B H w f Q qq => by
  obtain ⟨fd, F, b⟩ := ok_Answer_init (P := X.prog) (w := X.w) (base := X.base) T
  refine ofE (pe_make (E := fun _ _ _ => False) (m_Answer T) F (hr.mono hk) hg (g_Answer T) b .nil pass0 wpA.pa (by decide) he hpl) (ha σ B H w f _ fun ds vs B1 H1 ps s1 dd => ?_)
  obtain ⟨x, y, z, rfl, px⟩ := q ds ps
  obtain ⟨v1, r1, e1, h1, dd⟩ := dens_cons.mp dd
  obtain ⟨v2, r2, e2, h2, dd⟩ := dens_cons.mp dd
  obtain ⟨v3, r3, e3, h3, dd⟩ := dens_cons.mp dd
  have e4 := dens_nil.mp dd
  subst e4 e3 e2 e1
  intro p1 dx hp hdx hne
  refine ⟨p1, dx, v1, v2, v3, rfl, upd_same, rfl, ?_⟩
  rw [upd_upd]
  have s2 := Stp.newO s1.w (o := .own p1) hdx
  have hp2 : (upd H1 dx (.own p1)) p1 = none := by rw [upd_ne (Ne.symm hne)]; exact hp
  have s3 := Stp.new s2.w (o := .ins (ansC X.K) dx [("value", v1), ("numbers", v2), ("multiples", v3)]) hp2
  refine qq (.ans x) (.ref p1) _ _ px ((s1.trans s2).trans s3) ?_
  exact den_ans.mpr ⟨p1, dx, v1, v2, v3, rfl, upd_same, h1.mono s3.b⟩
end
end Z
end
section
set_option Elab.async false
set_option linter.all false
set_option maxRecDepth 100000
set_option maxHeartbeats 2000000
namespace Z
open PySem PySem.Spec PyProof.Rows L2 RZ
/-! ### the first table: plain -/
def rowsOf (p : LP.Prob) (q : Nat) : List (List Int) := (List.range p.m).map fun x => (List.range (1 + q)).map (cell p (LP.st0 p q) x)
def bndOf (p : LP.Prob) (q : Nat) : List Int := (List.range p.m).map fun x => cell p (LP.st0 p q) x p.n
def worOf (p : LP.Prob) (q : Nat) : List Int := (List.range (1 + q)).map fun j => -p.c0 j
theorem line_first {p : LP.Prob} {q : Nat} {g : Nat → LP.V3} {u : LP.V3} (S : LP.Shape p q g u) {k : Nat} (hk : k < p.m) :
    (((List.range (1 + q)).map (cell p (LP.st0 p q) k) ++ (List.range p.m).map (fun j => if j = k then (1 : Int) else 0)) ++ [cell p (LP.st0 p q) k p.n]) = rowAt p (LP.st0 p q) k := by
  unfold rowAt
  have hr : List.range (1 + q + p.m) = List.range (1 + q) ++ (List.range p.m).map (1 + q + ·) := List.range_add ..
  rw [List.range_succ, List.map_append, S.n, hr, List.map_append, List.map_map]
  refine congrArg (· ++ _) (congrArg (((List.range (1 + q)).map (cell p (LP.st0 p q) k)) ++ ·) (List.map_congr_left fun j hj => ?_))
  have hj := List.mem_range.mp hj
  obtain ⟨t0, t1, t2, _, _⟩ := LP.st0_tt S (1 + q + j)
  have o := S.own j hj
  have hm := S.m
  show _ = cell p (LP.st0 p q) k (1 + q + j)
  unfold cell
  rw [if_pos hk]
  rw [o] at t0 t1 t2
  have hk3 : k = 0 ∨ k = 1 ∨ k = 2 := by omega
  have hj3 : j = 0 ∨ j = 1 ∨ j = 2 := by omega
  rcases hk3 with rfl | rfl | rfl
  · rw [t0]
    rcases hj3 with rfl | rfl | rfl <;> rfl
  · rw [t1]
    rcases hj3 with rfl | rfl | rfl <;> rfl
  · rw [t2]
    rcases hj3 with rfl | rfl | rfl <;> rfl
theorem last_first {p : LP.Prob} {q : Nat} {g : Nat → LP.V3} {u : LP.V3} (S : LP.Shape p q g u) : ((worOf p q).map (fun x => -x) ++ List.replicate (p.m + 1) 0) = rowAt p (LP.st0 p q) p.m := by
  unfold rowAt worOf
  have hr : List.range (1 + q + (p.m + 1)) = List.range (1 + q) ++ (List.range (p.m + 1)).map (1 + q + ·) := List.range_add ..
  rw [S.n, show 1 + q + p.m + 1 = (1 + q) + (p.m + 1) by omega, hr, List.map_append, List.map_map, List.map_map]
  have hc : ∀ j, cell p (LP.st0 p q) p.m j = p.c0 j := fun j => by
    unfold cell
    rw [if_neg (Nat.lt_irrefl _)]
    exact (LP.st0_tt S j).2.2.2.2
  refine congr (congrArg _ (List.map_congr_left fun j hj => ?_)) ?_
  · show - -p.c0 j = cell p (LP.st0 p q) p.m j
    rw [hc]
    omega
  · refine (List.eq_replicate_iff.mpr ⟨by simp, fun x hx => ?_⟩).symm
    obtain ⟨j, hj, rfl⟩ := List.mem_map.mp hx
    show cell p (LP.st0 p q) p.m (1 + q + j) = 0
    rw [hc, S.c, if_neg (by omega)]
theorem bas_first {p : LP.Prob} {q : Nat} {g : Nat → LP.V3} {u : LP.V3} (S : LP.Shape p q g u) : ((List.range p.m).map fun (k : Nat) => ((1 + q : Nat) : Int) + (k : Int)) = basOf p (LP.st0 p q) := by
  unfold basOf
  refine List.map_congr_left fun k hk => ?_
  have hk := List.mem_range.mp hk
  have hm := S.m
  have hk3 : k = 0 ∨ k = 1 ∨ k = 2 := by omega
  rcases hk3 with rfl | rfl | rfl
  · show _ = (((1 + q : Nat)) : Int)
    omega
  · show _ = (((1 + q + 1 : Nat)) : Int)
    omega
  · have h2 : p.m ≠ 2 := by omega
    have e : LP.bi (LP.st0 p q) 2 = 1 + q + 2 := by
      show (if p.m = 2 then p.n + 1 else 1 + q + 2) = _
      rw [if_neg h2]
    rw [e]
    omega
theorem wor_sz {p : LP.Prob} {q : Nat} (h : Bnd p) {x : Int} (hx : x ∈ worOf p q) : x.natAbs < 2 ^ 80 := by
  obtain ⟨j, _, rfl⟩ := List.mem_map.mp hx
  rw [Int.natAbs_neg]
  exact bd_mono (h.c j) (by decide)
abbrev rowsD (p : LP.Prob) (q : Nat) : D := .lst ((rowsOf p q).map fun r => .lst (r.map D.int))
abbrev bndD (p : LP.Prob) (q : Nat) : D := .lst ((bndOf p q).map D.int)
abbrev worD (p : LP.Prob) (q : Nat) : D := .lst ((worOf p q).map D.int)
/-- a question's problem -/
structure PrOk (p : LP.Prob) (q : Nat) (g : Nat → LP.V3) (u : LP.V3) : Prop where
  s : LP.Shape p q g u
  b : Bnd p
abbrev tabCl (K : PySem.W.Frag) : Addr := He.ga K "Table"
def spTinit (K : PySem.W.Frag) : Sp := fun vs Hc Q _ => ∃ (J : Jx) (B H0 : Hp) (a dx : Addr) (p : LP.Prob) (q : Nat) (g : Nat → LP.V3) (u : LP.V3) (v1 v2 v3 : V), W J B H0 ∧ H0 a = none ∧ H0 dx = none ∧ dx ≠ a ∧ Hc = upd (upd H0 dx (.own a)) a (.ins (tabCl K) dx []) ∧ vs = [.ref a, v1, v2, v3] ∧
  Dens K J [rowsD p q, bndD p q, worD p q] B [v1, v2, v3] ∧ PrOk p q g u ∧ ∀ t B' H', TabIs t p (LP.st0 p q) → t.a = a → t.c = tabCl K → H0 t.l = none → H0 t.b = none → Stp J B H0 B' H' → TabAt B' H' t → Q .non H'
theorem HB.exF {X : Cx} {J : Jx} {B0 H0 : Hp} {Γ : Gam} {N : Sp3} {R : Rp} {sts : List Stmt} {α : Sort _} {F : α → Hp → Hp → Prop} (h : ∀ x, HB X sts (SF X J B0 H0 Γ (F x)) N R) : HB X sts (SF X J B0 H0 Γ (fun B H => ∃ x, F x B H)) N R := fun σ B H ⟨s, x, f⟩ => h x σ B H ⟨s, f⟩
theorem list_rep (n : Nat) (x : D) : (List.replicate n [x]).flatten = List.replicate n x := by
  induction n with
  | zero => rfl
  | succ n ih => rw [List.replicate_succ, List.flatten_cons, ih, List.replicate_succ]; rfl
theorem blk2 {N : List Str} {sc scope : Scope} {own : List (Str × Nat)} (h1 : scope.kind = .function) (h2 : ∀ y ∈ scope.names, scope.names.lookup y.1 = some y.2) (h3 : ∀ p ∈ own, N[p.2]? = some p.1)
    (h4 : ∀ y ∈ scope.names, y.2 = .free → y.1 = ("k" : Str)) (hk : sc.names.lookup ("k" : Str) = some .cell ∨ sc.names.lookup ("k" : Str) = some .free) (h5 : ∀ y ∈ scope.names, y.2 = .local ∨ y.2 = .cell → y.1 ∈ own.map (·.1) ∨ y.1 ∉ N) : BlkOk N sc scope own :=
  ⟨h1, h2, h3, fun y hy e => by rw [h4 y hy e]; exact hk, h5⟩
section
variable {P : Program} {w : World} {K : PySem.W.Frag} {mg : Str → Option Value} {base : Heap}
theorem ok_Table_init (T : Fac K mg) : OkA P w K mg base 1 (He.ma K (He.ga K "Table") "__init__") ["self", "rows", "bounds", "worths"] (spTinit K) := by
  obtain ⟨fd, F, b⟩ := f_Table_init T
  refine ⟨fd, ?_, b⟩
  refine F.ok c_Table_init (fun vs H Q E h => ?_) (fun cdv A outer sh Hc vs Q E hr h => ?_)
  · obtain ⟨J, B, H0, a, dx, p, q, g, u, v1, v2, v3, _, _, _, _, _, e, _⟩ := h
    rw [e]
    rfl
  obtain ⟨J, B, H0, a, dx, p, q, g, u, v1, v2, v3, hw, ha, hdx, hne, rfl, rfl, hd, ⟨hS, hB⟩, post⟩ := h
  have hm := hB.m
  have hn := hB.n
  have hSn := hS.n
  have hSm := hS.m
  refine ⟨_, wpSs.pss, ?_⟩
  have t1 := Stp.newO hw (o := .own a) hdx
  have ha2 : (upd H0 dx (.own a)) a = none := by rw [upd_ne (Ne.symm hne)]; exact ha
  have t2 := t1.trans (Stp.newO t1.w (o := .ins (tabCl K) dx []) ha2)
  have r0 : Rs J H0 a (.ins (tabCl K) dx []) B (upd (upd H0 dx (.own a)) a (.ins (tabCl K) dx [])) := ⟨hw.free ha, hw.nh ha, ha, upd_same⟩
  have s0 : S K J B H0 [some (.adr a), some (rowsD p q), some (bndD p q), some (worD p q), none, none, none, none, none, none] [] (L2.start n_Table_init [.ref a, v1, v2, v3]) B (upd (upd H0 dx (.own a)) a (.ins (tabCl K) dx [])) := by
    have z := S.start (N := n_Table_init) (ds := [.adr a, rowsD p q, bndD p q, worD p q]) (vs := [.ref a, v1, v2, v3]) t2.w (dens_cons.mpr ⟨_, _, rfl, den_adr.mpr rfl, hd⟩)
    exact ⟨t2, z.fit, fun q hq => (by cases hq), fun q hq => (by cases hq), z.len⟩
  refine (show HB (bx P w K mg base n_Table_init "Table.__init__" s_Table_init (He.ma K (He.ga K "Table") "__init__") cdv A outer sh (upd (upd H0 dx (.own a)) a (.ins (tabCl K) dx [])) E) (defBody s_Table_init) (SF (bx P w K mg base n_Table_init "Table.__init__" s_Table_init (He.ma K (He.ga K "Table") "__init__") cdv A outer sh (upd (upd H0 dx (.own a)) a (.ins (tabCl K) dx [])) E) J B H0 [some (.adr a), some (rowsD p q), some (bndD p q), some (worD p q), none, none, none, none, none, none] (Rs J H0 a (.ins (tabCl K) dx []))) (fun _ B' H' => ∃ t, TabIs t p (LP.st0 p q) ∧ t.a = a ∧ t.c = tabCl K ∧ H0 t.l = none ∧ H0 t.b = none ∧ Stp J B H0 B' H' ∧ TabAt B' H' t) (fun _ _ _ => False) from ?_) _ B _ ⟨s0, r0⟩ _ (fun σ' B' H' _ ⟨t, h1, h2, h3, h4, h5, h6, h7⟩ => post t B' H' h1 h2 h3 h4 h5 h6 h7) (fun _ _ _ _ z => z.elim)
  have lenR : ((rowsOf p q).map fun r => D.lst (r.map D.int)).length = p.m := by simp [rowsOf]
  have lenW : ((worOf p q).map D.int).length = 1 + q := by simp [worOf]
  refine hb_cons (HS.frame (fun _ _ => hs_unp (x_tup (ds := [.int (p.m : Nat), .int ((1 + q : Nat) : Int)]) (a_cons ((x_lenL (b_len T) (x_var 1)).is (by rw [lenR])) (a_cons ((x_lenL (b_len T) (x_var 3)).is (by rw [lenW])) a_nil))) (tg_pair 4 5 c_Table_init.nd)) stb_rs) ?_
  refine hb_cons (hs_fldF (x_var 0) (x_var 4) (k_Table T) (no_Table_many T) (by decide) stb_rs (fun _ _ h => h) (G := Rs J H0 a (.ins (tabCl K) dx [("many", .int (p.m : Nat))])) (fun d v B1 H1 e hd f => by subst e; rw [den_int.mp hd]; exact f.chg)) ?_
  refine hb_cons (hs_fldF (x_var 0) (x_var 5) (k_Table T) (no_Table_size T) (by show 1 < 1000; decide) stb_rs (fun _ _ h => h) (G := Rs J H0 a (.ins (tabCl K) dx [("many", .int (p.m : Nat)), ("size", .int ((1 + q : Nat) : Int))])) (fun d v B1 H1 e hd f => by subst e; rw [den_int.mp hd]; exact f.chg)) ?_
  refine hb_cons (hs_fldF (x_var 0) x_int (k_Table T) (no_Table_unit T) (by show 2 < 1000; decide) stb_rs (fun _ _ h => h) (G := Rs J H0 a (.ins (tabCl K) dx [("many", .int (p.m : Nat)), ("size", .int ((1 + q : Nat) : Int)), ("unit", .int 1)])) (fun d v B1 H1 e hd f => by subst e; rw [den_int.mp hd]; exact f.chg)) ?_
  refine hb_cons (hs_fldO (PL := fun ds => ds = (basOf p (LP.st0 p q)).map D.int) (x_var 0) ?_ (k_Table T) (no_Table_basis T) (by show 3 < 1000; decide) stb_rs (fun _ _ h => h) (G := fun B H => ∃ pb, Rs J H0 a (.ins (tabCl K) dx [("many", .int (p.m : Nat)), ("size", .int ((1 + q : Nat) : Int)), ("unit", .int 1), ("basis", .ref pb)]) B H ∧ Rs J H0 pb (.lst ((basOf p (LP.st0 p q)).map V.int)) B H)
    (fun ds pb vs B1 H1 e rp ne hd f hh => by subst e; rw [hd.ints] at rp; exact ⟨pb, f.chg, rp.oth (Ne.symm ne)⟩)) ?_
  · have z := bas_first hS
    rw [← z, List.map_map]
    refine o_lc [("k", 6)] [6] (fun (i : Nat) => D.int (i : Int)) (fun i Γ => Γ.set 6 (some (.int (i : Nat)))) (D.int ∘ fun (k : Nat) => ((1 + q : Nat) : Int) + (k : Int)) (i_range1 (n := (p.m : Nat)) (x_var 4) (by omega) (b_range T)) c_Table_init.nd (blk n_Table_init (defScope s_Table_init)) (by rw [List.length_range]; omega) ?_
    rintro i hi2 Y ⟨_, _, _, _, _, rfl⟩
    exact ⟨tg_name 6 c_Table_init.nd, x_add (x_var 5) (x_var 6)⟩
  refine .exF fun pb => ?_
  refine hb_cons (hs_fldO (PL := fun ds => ds = (List.range p.m).map fun k => D.lst ((rowAt p (LP.st0 p q) k).map D.int)) (x_var 0) ?_ (k_Table T) (no_Table_lines T) (by show 4 < 1000; decide) (stb_and stb_rs stb_rs) (fun _ _ h => h.1) (G := fun B H => ∃ pl vs, pb ≠ pl ∧ Rs J H0 a (.ins (tabCl K) dx [("many", .int (p.m : Nat)), ("size", .int ((1 + q : Nat) : Int)), ("unit", .int 1), ("basis", .ref pb), ("lines", .ref pl)]) B H ∧ Rs J H0 pb (.lst ((basOf p (LP.st0 p q)).map V.int)) B H ∧ Rs J H0 pl (.lst vs) B H ∧ Dens K J ((List.range p.m).map fun k => D.lst ((rowAt p (LP.st0 p q) k).map D.int)) B vs)
    (fun ds pl vs B1 H1 e rp ne hd f hh => ?_)) ?_
  · refine (o_lc (X := bx P w K mg base n_Table_init "Table.__init__" s_Table_init (He.ma K (He.ga K "Table") "__init__") cdv A outer sh (upd (upd H0 dx (.own a)) a (.ins (tabCl K) dx [])) E) [("k", 6), ("row", 7)] [6, 7] (xs := List.range p.m) (fun (k : Nat) => D.tup [.int (k : Nat), .lst (((List.range (1 + q)).map (cell p (LP.st0 p q) k)).map D.int)]) (fun k Γ => (Γ.set 6 (some (.int (k : Nat)))).set 7 (some (.lst (((List.range (1 + q)).map (cell p (LP.st0 p q) k)).map D.int)))) (fun k => D.lst ((rowAt p (LP.st0 p q) k).map D.int)) ((i_enum (x_var 1) (b_enumerate T)).is ?_) c_Table_init.nd (blk n_Table_init (defScope s_Table_init)) (by rw [List.length_range]; omega) ?_)
    · apply List.ext_getElem?
      intro i
      unfold rowsOf
      rw [List.map_map, List.getElem?_map, List.getElem?_map, List.getElem?_zipIdx, List.getElem?_map]
      by_cases hi : i < p.m
      · rw [List.getElem?_range hi]
        simp
      · rw [List.getElem?_eq_none (by simpa using hi)]
        rfl
    · rintro k hk Y ⟨_, _, _, _, _, rfl⟩
      have hk := List.mem_range.mp hk
      refine ⟨tg_pair 6 7 c_Table_init.nd, ?_⟩
      rw [← line_first hS hk, List.map_append, List.map_append]
      refine EvO.lst (o_cat (EvO.lst (o_cat (x_list (b_list T) (x_var 7)) (EvO.lst ?_) (by simp; omega))) (EvO.lst (o_lst (a_cons (x_ixL (x_var 2) (x_var 6) ?_) a_nil))) (by simp; omega))
      · refine EvO.is (o_lc [("j", 9)] [9] (fun (i : Nat) => D.int (i : Int)) (fun i Γ => Γ.set 9 (some (.int (i : Nat)))) (D.int ∘ fun j => if j = k then (1 : Int) else 0) (i_range1 (n := (p.m : Nat)) (x_var 4) (by omega) (b_range T)) c_Table_init.nd (blk2 (N := n_Table_init) rfl (by decide +kernel) (by decide +kernel) (by decide +kernel) (by first | exact .inl rfl | exact .inr rfl) (by decide +kernel)) (by rw [List.length_range]; omega) ?_) List.map_map.symm
        rintro j hj Z ⟨_, _, _, _, _, rfl⟩
        refine ⟨tg_name 9 c_Table_init.nd, (x_intB (b_int T) (x_eq (x_var 9) (x_var 6))).is ?_⟩
        show D.int (if decide (V.int (j : Nat) = V.int (k : Nat)) = true then 1 else 0) = D.int (if j = k then 1 else 0)
        rw [dec_vint]
        by_cases h : j = k
        · simp [h]
        · have h2 : ¬ ((j : Int) = (k : Int)) := by omega
          simp [h, h2]
      · rw [atI_nat]
        unfold bndOf
        rw [List.map_map, List.getElem?_map, List.getElem?_range hk]
        rfl
  · subst e
    refine ⟨pl, vs, ?_, f.1.chg, f.2.oth (fun z => ?_), rp.oth (Ne.symm ne), hd⟩
    · rcases hh pb _ f.2 with h | h
      · exact h
      · exfalso
        have e2 : (basOf p (LP.st0 p q)).map V.int = vs := by injection h
        obtain ⟨v, h1, h2⟩ := hd.get (i := 0) (d := D.lst ((rowAt p (LP.st0 p q) 0).map D.int)) (by rw [List.getElem?_map, List.getElem?_range (by omega)]; rfl)
        rw [← e2, List.getElem?_map] at h1
        obtain ⟨x, y, h3, _⟩ := den_lst.mp h2
        cases hz : (basOf p (LP.st0 p q))[0]? with
        | none => rw [hz] at h1; cases h1
        | some n =>
          rw [hz] at h1
          have h1 : V.int n = v := Option.some.inj h1
          rw [h3] at h1
          cases h1
    · have q1 := f.1.at_
      rw [← z, f.2.at_] at q1
      cases q1
  refine .exF fun pl => .exF fun vs => ?_
  refine hb_cons (hs_appF (p := pl) (vs := vs) (P := (· = .lst ((rowAt p (LP.st0 p q) p.m).map D.int))) (x_var 0) ?_ (k_Table T) (no_Table_lines T) rfl (fun B1 H1 f => by rw [f.2.2.2.2.length, List.length_map, List.length_range]; omega) (stb_and stb_p (stb_and stb_rs (stb_and stb_rs (stb_and stb_rs stb_dens)))) (fun _ _ h => h.2.1) (fun _ _ h => h.2.2.2.1)
    (G := fun B H => ∃ vs, pb ≠ pl ∧ Rs J H0 a (.ins (tabCl K) dx [("many", .int (p.m : Nat)), ("size", .int ((1 + q : Nat) : Int)), ("unit", .int 1), ("basis", .ref pb), ("lines", .ref pl)]) B H ∧ Rs J H0 pb (.lst ((basOf p (LP.st0 p q)).map V.int)) B H ∧ Rs J H0 pl (.lst vs) B H ∧ Dens K J ((List.range (p.m + 1)).map fun k => D.lst ((rowAt p (LP.st0 p q) k).map D.int)) B vs)
    (fun d v B1 H1 e hd f => ?_)) ?_
  · rw [← last_first hS, List.map_append]
    refine EvO.lst (o_cat (EvO.lst (EvO.is (o_lc [("worth", 8)] [8] (xs := worOf p q) D.int (fun i Γ => Γ.set 8 (some (.int i))) (D.int ∘ fun x => -x) (i_list (x_var 3)) c_Table_init.nd (blk n_Table_init (defScope s_Table_init)) (by simp [worOf]; omega) ?_) List.map_map.symm)) ((o_rep (xs := [.int 0]) (k := ((p.m + 1 : Nat) : Int)) (EvO.lst (o_lst (a_cons x_int a_nil))) ((x_add (x_var 4) x_int).is (by simp)) (by omega) (by decide)).lst.is ?_) (by simp [worOf]; omega))
    · rintro x hx Y ⟨_, _, _, _, _, rfl⟩
      exact ⟨tg_name 8 c_Table_init.nd, x_neg (x_var 8)⟩
    · rw [list_rep, Int.toNat_natCast, List.map_replicate]
  · obtain ⟨hn, f1, f2, f3, f4⟩ := f
    subst e
    refine ⟨vs ++ [v], hn, f1.oth (fun z => ?_), f2.oth hn, f3.chg, ?_⟩
    · have q1 := f1.at_
      rw [z, f3.at_] at q1
      cases q1
    · rw [List.range_succ, List.map_append]
      exact f4.append (dens_cons.mpr ⟨v, [], rfl, hd, dens_nil.mpr rfl⟩)
  refine .exF fun ws => hb_nil fun σ B1 H1 ⟨s1, hn, f1, f2, f3, f4⟩ => ?_
  refine ⟨⟨a, dx, pl, pb, tabCl K, p.m, 1 + q, 1, basOf p (LP.st0 p q), (List.range (p.m + 1)).map (rowAt p (LP.st0 p q))⟩, ⟨(lines_eq p _).symm, (LP.st0_tt hS 0).2.2.2.1.symm, rfl, rfl, hSn.symm⟩, rfl, rfl, f3.new, f2.new, s1.st, ⟨f1.out, f3.out, f2.out, f1.at_, ⟨ws, f3.at_, ?_, fun i r hr => ?_⟩, f2.at_, Ne.symm hn⟩⟩
  · rw [f4.length]
    simp
  · have hr : ((List.range (p.m + 1)).map (rowAt p (LP.st0 p q)))[i]? = some r := hr
    rw [List.getElem?_map] at hr
    cases hz : (List.range (p.m + 1))[i]? with
    | none => rw [hz] at hr; cases hr
    | some k =>
      rw [hz] at hr
      have hr : rowAt p (LP.st0 p q) k = r := Option.some.inj hr
      obtain ⟨v, h1, h2⟩ := f4.get (i := i) (d := D.lst ((rowAt p (LP.st0 p q) k).map D.int)) (by rw [List.getElem?_map, hz]; rfl)
      obtain ⟨x, us, rfl, h3, h4⟩ := den_lst.mp h2
      rw [h4.ints] at h3
      exact ⟨x, h1, by rw [← hr]; exact h3⟩
end
end Z
end
section
set_option Elab.async false
set_option linter.all false
set_option maxRecDepth 100000
set_option maxHeartbeats 2000000
namespace Z
open PySem PySem.Spec PyProof.Rows L2 RZ
section
variable {K : PySem.W.Frag} {J : Jx} {B H B' H' : Hp}
abbrev Jx.cut (J : Jx) : Jx := ⟨J.jar, none⟩
theorem W.cut (w : W J B H) : W J.cut B H := ⟨w.s, w.j, fun t e => by cases e⟩
/-- what is done without the table leaves it -/
theorem Stp.reT (w : W J B H) (s : Stp J.cut B H B' H') : Stp J B H B' H' := by
  have tb : ∀ t, J.tab = some t → ∀ x, (x = t.a ∨ x = t.l ∨ x = t.b) → B' x = none ∧ H' x = H x := fun t e x hx => by
    have hh : J.has x := .inr ⟨t, e, hx⟩
    have nj := (w.t t e).2
    refine s.own x (fun z => ?_) (w.has hh).1 (w.has hh).2
    obtain ⟨n1, n2, n3⟩ := nj x z
    rcases hx with h | h | h
    · exact n1 h
    · exact n2 h
    · exact n3 h
  refine ⟨s.b, ⟨s.w.s, s.w.j, fun t e => ?_⟩, s.own⟩
  obtain ⟨T, nj⟩ := w.t t e
  obtain ⟨a1, a2⟩ := tb t e t.a (.inl rfl)
  obtain ⟨l1, l2⟩ := tb t e t.l (.inr (.inl rfl))
  obtain ⟨b1, b2⟩ := tb t e t.b (.inr (.inr rfl))
  obtain ⟨us, v1, v2, v3⟩ := T.hl
  exact ⟨⟨a1, l1, b1, a2.trans T.ha, ⟨us, l2.trans v1, v2, fun i r hr => by
    obtain ⟨p, p1, p2⟩ := v3 i r hr
    exact ⟨p, p1, s.b _ _ p2⟩⟩, b2.trans T.hb, T.ne⟩, nj⟩
end
section
variable {P : Program} {w : World} {K : PySem.W.Frag} {mg : Str → Option Value} {base : Heap}
/-- a def whose body is shown where no table is -/
theorem okN {A : Type} {args : A → List D} {pre : A → Prop} {post : A → D → Prop} {x : Str} {st : Stmt} {N ps : List Str} {k : Nat} (F : ∃ fd, Fun K x x st (He.ga K x) fd ∧ Binds K fd ps []) (g : mg x = some (.ref (He.ga K x))) (Sc : FnScope N ps (defScope st)) (hl : ∀ a, (args a).length = ps.length) (hnt : ∀ a, nts (args a) = true) (hpt : ∀ a d, post a d → nt d = true)
    (hb : ∀ (cdv : Value) (Ar : Around) (outer : List Env) (s : Shared) (E : XK) (J : Jx) (B H : Hp) (a : A), Room k (bx P w K mg base N x st (He.ga K x) cdv Ar outer s H E).A → pre a → J.tab = none →
      HB (bx P w K mg base N x st (He.ga K x) cdv Ar outer s H E) (defBody st) (S K J B H ((args a).map some ++ List.replicate (N.length - (args a).length) none) []) (fun _ B' H' => Stp J B H B' H' ∧ post a .non) (Ret K J B H (post a))) :
    Ok P w K mg base x (k + 1) ps (Pm K args pre post) := by
  obtain ⟨fd, F, b⟩ := F
  refine ⟨⟨fd, ?_, b⟩, F.kp, g⟩
  refine F.ok Sc (fun vs H Q E h => ?_) (fun cdv A outer s H vs Q E hr h => ?_)
  · obtain ⟨J, B, a, _, hd, _⟩ := h
    rw [hd.length, hl]
  · obtain ⟨J, B, a, hw, hd, hp, q⟩ := h
    refine ⟨_, wpSs.pss, ?_⟩
    have hd1 : Dens K J.cut (args a) B vs := Dens.reJ (J := J) (J' := J.cut) rfl (hnt a) hd
    refine hb cdv A outer s E J.cut B H a hr hp rfl _ B H (S.start hw.cut hd1) _ (fun σ' B' H' _ hn => ?_) fun v B' H' _ hr => ?_
    · exact q _ _ B' H' hn.2 (hn.1.reT hw) (den_non.mpr rfl)
    · obtain ⟨t, d, pd, hd⟩ := hr
      exact q d v B' H' pd (t.reT hw) (Den.reJ (J := J.cut) (J' := J) rfl (hpt a d pd) hd)
end
section
variable {X : Cx} {J : Jx} {B0 H0 : Hp} {Γ Γ' : Gam} {O O' : Own} {N M : Sp3} {R : Rp} {st : Stmt} {rest body : List Stmt} {e c a b idx iter elt tg : Expr} {ifs es : List Expr} {pos : Pos} {P : D → Prop} {d : D}
theorem HB.ret {S0 : Sp3} {R' : Rp} {sts : List Stmt} (h : HB X sts S0 N R') (k : ∀ v B H, R' v B H → R v B H) : HB X sts S0 N R := fun σ B H s E n r => h σ B H s E n fun v B' H' e q => r v B' H' e (k v B' H' q)
theorem hb_whileR {α : Type} {c : Expr} {S0 : Sp3} (μ : α → Nat) (Sf : α → Sp3) (PT : α → Bool → Prop) (h0 : ∀ σ B H, S0 σ B H → ∃ x, Sf x σ B H) (hc : ∀ x σ B H, Sf x σ B H → ∀ Q : Bool → Hp → Prop, (∀ b B' H', Same B B' → PT x b → Sf x σ B' H' → Q b H') → wpT X c σ H Q)
    (hb : ∀ x, PT x true → HB X body (Sf x) (fun σ B H => ∃ x', μ x' < μ x ∧ Sf x' σ B H) R) (hn : ∀ x, PT x false → HB X rest (Sf x) N R) (hp : PassesOwn (model X.prog X.w) X.A X.env X.xe) :
    HB X (.While c body [] pos :: rest) S0 N R :=
  hb_cons (M := fun σ B H => ∃ x, PT x false ∧ Sf x σ B H)
    (fun σ B H s E n r => ofS (ps_while hp wpT.pt wpSs.pss) (by
      obtain ⟨x0, s0⟩ := h0 σ B H s
      refine ⟨fun m σ' H' => ∃ B', Same B B' ∧ ∃ x, m = μ x ∧ Sf x σ' B' H', ⟨_, B, .refl _, x0, rfl, s0⟩, ?_⟩
      rintro m σ' H' ⟨B', e, x, rfl, s'⟩
      refine hc x σ' B' H' s' _ fun b B1 H1 e1 pb s1 => ?_
      cases b with
      | true =>
        refine iteT ⟨fun σ2 H2 => ∃ B2, Same B B2 ∧ ∃ x', μ x' < μ x ∧ Sf x' σ2 B2 H2, fun σ2 H2 ⟨B2, e2, x', l, s2⟩ => ⟨μ x', l, B2, e2, x', rfl, s2⟩, ?_⟩
        exact hb x pb σ' B1 H1 s1 _ (fun σ2 B2 H2 e2 ⟨x', l, s2⟩ => ⟨B2, (e.trans e1).trans e2, x', l, s2⟩) fun v B2 H2 e2 => r v B2 H2 ((e.trans e1).trans e2)
      | false => exact iteF (n σ' B1 H1 (e.trans e1) ⟨x, pb, s1⟩)))
    (.ex fun x σ B H ⟨pf, s⟩ => hn x pf σ B H s)
/-- table = Table(rows, bounds, worths) -/
theorem hs_mkTable (i : Nat) {x : Str} {px p : Pos} {pr : LP.Prob} {q : Nat} {g : Nat → LP.V3} {u : LP.V3} {k : Nat} (T : Fac X.K X.mg) (hr : Room k X.A) (hk : 2 ≤ k) (ha : EvA X J Γ [a, b, c] (· = [rowsD pr q, bndD pr q, worD pr q])) (hp : PrOk pr q g u) (hΓ : Γ'.length = Γ.length) (hi0 : i < Γ.length)
    (hn : ∀ (j : Nat) (d : D), Γ'[j]? = some (some d) → j ≠ i ∧ Γ[j]? = some (some d) ∧ nt d = true) (hN : X.N.Nodup) (hg : Gl X "Table" := by rfl) (he : starEach [a, b, c] X.env = (false, eval a X.env) :: starEach [b, c] X.env := by rfl) (hpl : (backTo p (starEach [b, c] X.env)).any (·.1) = false := by rfl)
    (hi : X.N[i]? = some x := by rfl) (hx : Loc X.env.scope x := by first | exact Or.inl rfl | exact Or.inr rfl) (hf : X.fn x = true ∨ X.env.scope.names.lookup x = some .local := by first | exact .inl rfl | exact .inr rfl) {pn : Pos}
    (hs : swapsWith (.Call (.Name "Table" pn) [a, b, c] [] p) (some (.Name x px)) pos.line X.env = pure false := by rfl) :
    HS X (.Assign [.Name x px] (.Call (.Name "Table" pn) [a, b, c] [] p) pos) (SX X J B0 H0 Γ []) (fun σ B H => ∃ t, TabIs t pr (LP.st0 pr q) ∧ H0 t.a = none ∧ H0 t.l = none ∧ H0 t.b = none ∧ SX X (J.with t) B0 H0 (Γ'.set i (some (.tab t))) [] σ B H) R := fun σ B H s E n _ => by
  obtain ⟨fd, F, bd⟩ := ok_Table_init (P := X.prog) (w := X.w) (base := X.base) T
  refine ofS (ps_set hN hi hx (pe_make (E := fun _ _ _ => False) (m_Table T) F (hr.mono hk) hg (g_Table T) bd .nil pass0 wpA.pa (by decide) he hpl) hs hf) (ha σ B H s.w s.fit _ fun ds vs B1 H1 ed t1 dd => ?_)
  subst ed
  obtain ⟨v1, r1, e1, h1, dd'⟩ := dens_cons.mp dd
  obtain ⟨v2, r2, e2, h2, dd'⟩ := dens_cons.mp dd'
  obtain ⟨v3, r3, e3, h3, dd'⟩ := dens_cons.mp dd'
  have e4 := dens_nil.mp dd'
  subst e4 e3 e2 e1
  intro p1 dx hp1 hdx hne
  refine ⟨J, B1, H1, p1, dx, pr, q, g, u, v1, v2, v3, t1.w, hp1, hdx, hne, rfl, by rw [List.append_nil], dd, hp, fun t B2 H2 ht ea ec el eb s2 TT => ⟨rfl, n _ B2 H2 (t1.trans s2).b ⟨t, ht, ?_, ?_, ?_, ?_⟩⟩⟩
  · rw [ea]; exact s.st.back2 (t1.back2 hp1)
  · exact s.st.back2 (t1.back2 el)
  · exact s.st.back2 (t1.back2 eb)
  have st := (s.st.trans t1).trans s2
  have nh : ∀ x, H1 x = none → ∀ j, J.jar = some j → j ≠ x := fun x hx j e z => by
    have := (t1.w.has (.inl e)).2
    rw [z] at this
    exact this hx
  refine ⟨⟨st.b, ⟨st.w.s, st.w.j, fun tt e => ?_⟩, st.own⟩, ⟨fun j d hj => ?_, ?_⟩, fun q hq => (by cases hq), fun q hq => (by cases hq), ?_⟩
  · have : t = tt := Option.some.inj e
    subst this
    exact ⟨TT, fun j hj => ⟨nh _ (by rw [ea]; exact hp1) j hj, nh _ el j hj, nh _ eb j hj⟩⟩
  · rw [get_set] at hj
    by_cases z : i = j
    · subst z
      rw [if_pos rfl, if_pos (by rw [hΓ]; exact hi0)] at hj
      have : D.tab t = d := by injection hj with hj; injection hj
      subst this
      exact ⟨.ref p1, by rw [get_set, if_pos rfl, if_pos (by rw [s.len]; exact hi0)], den_tab.mpr ⟨rfl, ec, by rw [ea]⟩⟩
    · rw [if_neg z] at hj
      obtain ⟨_, h4, h5⟩ := hn j d hj
      obtain ⟨v, h6, h7⟩ := s.fit.g j d h4
      exact ⟨v, by rw [List.getElem?_set_ne z]; exact h6, Den.reJ (J := J) (J' := J.with t) rfl h5 (h7.mono (t1.trans s2).b)⟩
  · rw [List.length_set, List.length_set, hΓ]
    exact s.len
  · rw [List.length_set, List.length_set, hΓ]
    exact s.len
/-- table.turn(index, place) -/
theorem hs_turn {t : TabC} {pr : LP.Prob} {bs : LP.St} {r s : Nat} {k : Nat} {apos cpos : Pos} {pl : Sem Bool} (T : Fac X.K X.mg) (hr : Room k X.A) (hk : 1 ≤ k) (ha : Ev X (J.with t) Γ a (· = .tab t)) (hes : EvA X (J.with t) Γ [b, c] (· = [.int r, .int s])) (ok : TOk ⟨t, pr, bs⟩) (hrm : r < pr.m) (hsn : s < pr.n) (hts : 0 < LP.tt pr bs r s)
    (h0 : H0 t.a = none ∧ H0 t.l = none ∧ H0 t.b = none) (hΓ : ∀ t', ReG t t' Γ (Γ'.map fun o => o.map fun d => match d with | .tab _ => .tab t' | d => d))
    (hst : starEach [b, c] X.env = (false, eval b X.env) :: starEach [c] X.env := by rfl) (hpl : (backTo cpos (starEach [c] X.env)).any (·.1) = false := by rfl) (hs : swapsWith (.Call (.Attribute a "turn" apos) [b, c] [] cpos) none pos.line X.env = pure false := by rfl)
    (ht : eval (.Call (.Attribute a "turn" apos) [b, c] [] cpos) X.env = (do
      let ov ← eval a X.env
      standAt apos.atName
      let (f, first) ← holding [ov] (getMethod ov "turn" pl)
      callWith cpos f first (backTo cpos (starEach [b, c] X.env)) (backToKw cpos (keywordEach [] X.env))) := by rfl) :
    HS X (.Expr (.Call (.Attribute a "turn" apos) [b, c] [] cpos) pos) (SX X (J.with t) B0 H0 Γ []) (fun σ B H => ∃ t', TabIs t' pr (LP.setb bs r s) ∧ H0 t'.a = none ∧ H0 t'.l = none ∧ H0 t'.b = none ∧ SX X (J.with t') B0 H0 (Γ'.map fun o => o.map fun d => match d with | .tab _ => .tab t' | d => d) [] σ B H) R := fun σ B H sx E n _ => by
  obtain ⟨fd, F, bd⟩ := ok_turn (P := X.prog) (w := X.w) (base := X.base) T
  refine ofS (ps_expr (pe_meth (E := fun _ _ _ => False) wpE.pe (k_Table T) (me_Table_turn T) F (hr.mono hk) bd .nil pass0 wpA.pa hst hpl ht) hs) (ha σ B H sx.w sx.fit _ fun d v B1 H1 ed t1 hd => ?_)
  subst ed
  obtain ⟨g1, g2, rfl⟩ := den_tab.mp hd
  have s1 := sx.step t1
  have TA := (s1.w.t t rfl).1
  refine ⟨t.a, t.dx, _, rfl, by rw [← g2]; exact TA.ha, rfl, ?_⟩
  refine hes σ B1 H1 s1.w s1.fit _ fun ds vs B2 H2 ed t2 dd => ?_
  subst ed
  obtain ⟨v1, r1, e1, h1, dd'⟩ := dens_cons.mp dd
  obtain ⟨v2, r2, e2, h2, dd'⟩ := dens_cons.mp dd'
  have e4 := dens_nil.mp dd'
  have e5 := den_int.mp h1
  have e6 := den_int.mp h2
  subst e4 e5 e6 e2 e1
  have s2 := s1.step t2
  refine ⟨J.with t, B2, ⟨t, pr, bs⟩, r, s, s2.w, rfl, g2, rfl, ok, hrm, hsn, hts, fun t' B3 H3 ht' ea el eb ec st3 => ?_⟩
  refine n σ B3 H3 ((t1.trans t2).b.trans st3.b) ⟨t', ht', by rw [ea]; exact h0.1, by rw [el]; exact h0.2.1, by rw [eb]; exact h0.2.2, ?_⟩
  have hre := hΓ t'
  refine ⟨⟨s2.st.b.trans st3.b, st3.w, fun y hy h3 h4 => ?_⟩, (s2.fit.retab ea ec hre).mono st3.b, fun q hq => (by cases hq), fun q hq => (by cases hq), by rw [hre.1]; exact s2.len⟩
  obtain ⟨k1, k2⟩ := s2.st.own y hy h3 h4
  have hc : cutH t H2 y = H2 y := by
    unfold cutH
    rw [if_neg]
    rintro (z | z | z) <;> subst z
    · exact h4 h0.1
    · exact h4 h0.2.1
    · exact h4 h0.2.2
  obtain ⟨k3, k4⟩ := st3.own y hy k1 (by rw [hc, k2]; exact h4)
  exact ⟨k3, k4.trans (hc.trans k2)⟩
end
section
variable {P : Program} {w : World} {K : PySem.W.Frag} {mg : Str → Option Value} {base : Heap}
/-- a question: its problem -/
structure Qu where
  p : LP.Prob
  q : Nat
  g : Nat → LP.V3
  u : LP.V3
def QuOk (a : Qu) : Prop := PrOk a.p a.q a.g a.u ∧ 0 ≤ a.u.1 ∧ 0 ≤ a.u.2.1 ∧ 0 ≤ a.u.2.2
/-- its answer -/
def Ans (a : Qu) (d : D) : Prop := (∃ b, LP.Inv a.p b ∧ LP.ent a.p b = none ∧ d = .ans (frD (low (LP.ob a.p b a.p.n) (LP.dd a.p b)))) ∨ (∃ b s, LP.Inv a.p b ∧ LP.ent a.p b = some s ∧ LP.leav a.p b s = none ∧ d = .ans .non)
theorem nts_rows (p : LP.Prob) (q : Nat) : ∀ rs : List (List Int), nts (rs.map fun r => D.lst (r.map D.int)) = true
  | [] => by simp [nts]
  | r :: rs => by simp [nts, nt, nts_ints, nts_rows p q rs]
theorem ok_greatest_sum (T : Fac K mg) : Ok P w K mg base "greatest_sum" 5 ["rows", "bounds", "worths"] (Pm K (fun a : Qu => [rowsD a.p a.q, bndD a.p a.q, worD a.p a.q]) QuOk Ans) := by
  refine okN (f_greatest_sum T) (g_greatest_sum T) c_greatest_sum (fun _ => rfl) (fun a => by simp [nts, nt, nts_rows a.p a.q, nts_ints]) (fun a d h => ?_) ?_
  · rcases h with ⟨b, _, _, rfl⟩ | ⟨b, s, _, _, _, rfl⟩ <;> simp [nt, nts]
  intro cdv Ar outer s E J B H a hr ⟨hp, hu⟩ hJ
  have hm := hp.b.m
  have hn := hp.b.n
  have ok := hp.s.ok
  have h0 := LP.st0_inv hp.s hu
  obtain ⟨k0, l0⟩ := LP.left_all ok h0
  refine hb_cons (hs_mkTable (Γ := [some (rowsD a.p a.q), some (bndD a.p a.q), some (worD a.p a.q), none, none, none]) (Γ' := [none, none, none, none, none, none]) 3 T hr (by decide) (a_cons (x_var 0) (a_cons (x_var 1) (a_cons (x_var 2) a_nil))) hp rfl (by show 3 < 6; decide) (fun j d hj => ?_) c_greatest_sum.nd) ?_
  · have hj : (List.replicate 6 (none : Option D))[j]? = some (some d) := hj
    rw [List.getElem?_replicate] at hj
    split at hj <;> cases hj
  refine hb_whileR (α := Σ' (b : LP.St) (k : Nat), PLift (LP.Inv a.p b ∧ LP.Left a.p k b)) (fun x => x.2.1) (fun x σ B' H' => ∃ t, TabIs t a.p x.1 ∧ H t.a = none ∧ H t.l = none ∧ H t.b = none ∧ S K (J.with t) B H [none, none, none, some (.tab t), none, none] [] σ B' H') (fun _ b => b = true) (fun σ B' H' ⟨t, h1, h2, h3, h4, h5⟩ => ⟨⟨_, k0, ⟨h0, l0⟩⟩, t, h1, h2, h3, h4, h5⟩) (fun x σ B' H' ⟨t, h1, h2, h3, h4, s'⟩ Q q => ?_) (fun x _ => ?_) (fun x hx => by cases hx) PassesOwn.never
  · exact (t_bl (X := bx P w K mg base n_greatest_sum "greatest_sum" s_greatest_sum (He.ga K "greatest_sum") cdv Ar outer s H E) (J := J.with t) (Γ := [none, none, none, some (.tab t), none, none]) x_bl) σ B' H' s'.w s'.fit Q fun b B2 H2 e t2 => q b B2 H2 t2.b e ⟨t, h1, h2, h3, h4, s'.step t2⟩
  obtain ⟨b, k, ⟨iv, l⟩⟩ := x
  refine .ex fun t => .and fun ht => .and fun ha0 => .and fun hl0 => .and fun hb0 => ?_
  have tok : TOk ⟨t, a.p, b⟩ := ⟨ht, hp.b, iv⟩
  have back : ∀ {v B' H'}, Ret K (J.with t) B H (Ans a) v B' H' → Ret K J B H (Ans a) v B' H' := fun {v B' H'} ⟨st, d, pd, hd⟩ => by
    have hnt : nt d = true := by rcases pd with ⟨b, _, _, rfl⟩ | ⟨b, s, _, _, _, rfl⟩ <;> simp [nt, nts]
    exact ⟨⟨st.b, ⟨st.w.s, st.w.j, fun tt e => by rw [hJ] at e; cases e⟩, st.own⟩, d, pd, Den.reJ (J := J.with t) (J' := J) rfl hnt hd⟩
  refine HB.ret (R' := Ret K (J.with t) B H (Ans a)) ?_ (fun _ _ _ => back)
  refine hb_set 4 (x_meth0 T (me_Table_entering T) (ok_entering T) hr (by decide) (x_var 3) ⟨t, a.p, b⟩ rfl tok (fun d hd => hd)) ?_ c_greatest_sum.nd
  refine hb_ifR (t_isN (x := oD (LP.ent a.p b)) (x_var 4)) (fun hc => ?_) (fun hc => ?_)
  · have he : LP.ent a.p b = none := by
      cases h : LP.ent a.p b with
      | none => rfl
      | some z => rw [h] at hc; cases hc
    refine hb_ret (P := Ans a) (x_Answer T hr (by decide) (a_consP (x_fnD (ok_lowest T) (LP.ob a.p b a.p.n, t.unit) hr (a_cons (x_ixL (x_ixln (x_lines T (x_var 3)) (x_neg x_int) (at_lastline ht)) (x_neg x_int) at_obl) (a_cons (x_unit T (x_var 3)) a_nil)) ?_) (a_consP (x_meth0 T (me_Table_numbers_now T) (ok_numbers_now T) hr (by decide) (x_var 3) ⟨t, a.p, b⟩ rfl tok (fun d hd => hd)) (a_consP (x_meth0 T (me_Table_multiples_now T) (ok_multiples_now T) hr (by decide) (x_var 3) ⟨t, a.p, b⟩ rfl tok (fun d hd => hd)) a_nil (P := fun ds => ∃ z, ds = [z]) (fun d ds _ e => ⟨d, by rw [e]⟩)) (P := fun ds => ∃ y z, ds = [y, z]) (fun d ds _ ⟨z, e⟩ => ⟨d, z, by rw [e]⟩)) (P := fun ds => ∃ y z, ds = [frD (low (LP.ob a.p b a.p.n) t.unit), y, z]) (fun d ds e ⟨y, z, e2⟩ => ⟨y, z, by rw [e, e2]⟩)) (fun ds ⟨y, z, e⟩ => ⟨_, y, z, e, .inl ⟨b, iv, he, by rw [ht.unit]⟩⟩)) (fun d h => h)
    rw [ht.unit]
    exact sz80 (ob80 hp.b _ _) (dd80 hp.b _) iv.pos
  · obtain ⟨sp, he⟩ : ∃ sp, LP.ent a.p b = some sp := by
      cases h : LP.ent a.p b with
      | none => rw [h] at hc; cases hc
      | some z => exact ⟨z, rfl⟩
    have hsn := (LP.ent_some a.p he).1
    rw [he]
    refine hb_set 5 (x_meth T (me_Table_leaving T) (ok_leaving T) hr (by decide) (x_var 3) (a_cons (x_var 4) a_nil) (⟨t, a.p, b⟩, sp) rfl ⟨tok, hsn⟩ (fun d hd => hd)) ?_ c_greatest_sum.nd
    refine hb_ifR (t_isN (x := oD (LP.leav a.p b sp)) (x_var 5)) (fun hc => ?_) (fun hc => ?_)
    · have hl : LP.leav a.p b sp = none := by
        cases h : LP.leav a.p b sp with
        | none => rfl
        | some z => rw [h] at hc; cases hc
      exact hb_ret (P := Ans a) (x_Answer T hr (by decide) (a_consP x_non (a_consP (x_meth T (me_Table_way_of T) (ok_way_of T) hr (by decide) (x_var 3) (a_cons (x_var 4) a_nil) (⟨t, a.p, b⟩, sp) rfl ⟨tok, hsn⟩ (fun d hd => hd)) (a_consP (EvO.lst (o_lst a_nil)) a_nil (P := fun ds => ∃ z, ds = [z]) (fun d ds _ e => ⟨d, by rw [e]⟩)) (P := fun ds => ∃ y z, ds = [y, z]) (fun d ds _ ⟨z, e⟩ => ⟨d, z, by rw [e]⟩)) (P := fun ds => ∃ y z, ds = [.non, y, z]) (fun d ds e ⟨y, z, e2⟩ => ⟨y, z, by rw [e, e2]⟩)) (fun ds ⟨y, z, e⟩ => ⟨_, y, z, e, .inr ⟨b, sp, iv, he, hl, rfl⟩⟩)) (fun d h => h)
    · obtain ⟨r, hl⟩ : ∃ r, LP.leav a.p b sp = some r := by
        cases h : LP.leav a.p b sp with
        | none => rw [h] at hc; cases hc
        | some z => exact ⟨z, rfl⟩
      obtain ⟨hrm, hts, _⟩ := LP.leav_some hl
      rw [hl]
      have hnx : LP.nxt a.p b = some (LP.setb b r sp) := by
        unfold LP.nxt
        rw [he]
        show (match LP.leav a.p b sp with | none => none | some r => some (LP.setb b r sp)) = _
        rw [hl]
      cases l with
      | stop hs => rw [hnx] at hs; cases hs
      | go hg l' =>
        have e1 := hnx.symm.trans hg
        have e1 := Option.some.inj e1
        refine hb_cons (hs_turn (pr := a.p) (bs := b) (r := r) (s := sp) (Γ' := [none, none, none, some (.tab t), none, none]) T hr (by decide) (x_var 3) (a_cons (x_var 5) (a_cons (x_var 4) a_nil)) tok hrm hsn hts ⟨ha0, hl0, hb0⟩ (fun t' => reG_none (reG_none (reG_none (reG_tab (reG_none (reG_none reG_nil))))))) (hb_nil fun σ B' H' ⟨t', k1, k2, k3, k4, s'⟩ => ?_)
        subst e1
        exact ⟨⟨_, _, ⟨iv.turn ok he hl, l'⟩⟩, Nat.lt_succ_self _, t', k1, k2, k3, k4, s'⟩
end
end Z
end
section
set_option Elab.async false
set_option linter.all false
set_option maxRecDepth 100000
set_option maxHeartbeats 2000000
namespace Z
open PySem PySem.Spec PyProof.Rows L2 RZ
/-! ### plain -/
theorem at_zero {α : Type} {x : α} {xs : List α} : atI (x :: xs) 0 = some x := atI_nat (k := 0)
def fsum (xs : List Fr) : Fr := xs.foldl fplus (0, 1)
def fmax (x : Fr) (xs : List Fr) : Fr := xs.foldl (fun f o => if fless f o then o else f) x
def fmin (x : Fr) (xs : List Fr) : Fr := xs.foldl (fun f o => if fless o f then o else f) x
def lleast (x : Fr) (xs : List Fr) : Fr := xs.foldl (fun f o => if fless o f then o else f) x
def ftimes (x y : Fr) : Fr := low (x.1 * y.1) (x.2 * y.2)
def fneg (x : Fr) : Fr := (0 - x.1, x.2)
/-- the worth of a payoff at a chance -/
def worth (pay : List Int) (ch : List Fr) : Fr := (pay.zip ch).foldl (fun f q => fplus f (low (q.1 * q.2.1) q.2.2)) (0, 1)
theorem foldl_take {α β : Type} (f : β → α → β) (b : β) {xs : List α} {i : Nat} {x : α} (h : xs[i]? = some x) : (xs.take (i + 1)).foldl f b = f ((xs.take i).foldl f b) x := by
  rw [List.take_add_one, h, List.foldl_append]
  rfl
theorem fsum_sz {n : Nat} : ∀ {xs : List Fr}, (∀ x ∈ xs, Sz n x) → ∀ {m : Nat} {y : Fr}, Sz m y → Sz (m + xs.length * (n + 1)) (xs.foldl fplus y)
  | [], _, m, y, hy => by simpa using hy
  | x :: xs, h, m, y, hy => by
    have h1 := plus_sz hy (h x List.mem_cons_self)
    have h2 := fsum_sz (fun z hz => h z (List.mem_cons_of_mem _ hz)) (m := m + n + 1) h1
    rw [List.foldl_cons]
    refine sz_mono h2 ?_
    rw [List.length_cons, Nat.add_mul]
    omega
theorem sz01 : Sz 1 (0, 1) := ⟨by decide, by decide, by decide⟩
theorem fpick {Q : Fr → Prop} {f : Fr → Fr → Bool} : ∀ {xs : List Fr} {x : Fr}, Q x → (∀ y ∈ xs, Q y) → Q (xs.foldl (fun a o => if f a o then o else a) x)
  | [], x, h, _ => h
  | y :: ys, x, h, g => by
    rw [List.foldl_cons]
    refine fpick ?_ fun z hz => g z (List.mem_cons_of_mem _ hz)
    split
    · exact g y List.mem_cons_self
    · exact h
section
variable {P : Program} {w : World} {K : PySem.W.Frag} {mg : Str → Option Value} {base : Heap}
theorem ok_added (T : Fac K mg) : Ok P w K mg base "added" 4 ["some"] (Pm K (fun xs : List Fr => [.lst (xs.map frD)]) (fun xs => xs.length ≤ 6 ∧ ∀ x ∈ xs, Sz 500 x) (fun xs d => d = frD (fsum xs))) := by
  refine okD (f_added T) (g_added T) c_added (fun _ => rfl) ?_
  intro cdv Ar outer s E J B H xs hr ⟨hl, hs⟩
  refine hb_set 1 (x_tup (a_cons x_int (a_cons x_int a_nil))) ?_ c_added.nd
  refine hb_forX (α := Unit) [2] frD (fun x Γ => Γ.set 2 (some (frD x))) (fun _ _ => True) (fun i _ => [some (.lst (xs.map frD)), some (frD (fsum (xs.take i))), none]) (fun _ _ => []) () (i_list (x_var 0)) trivial (fun _ _ _ s => s) (fun x _ => tg_name 2 c_added.nd) (fun _ _ q h => by cases h) (fun i x _ hx _ => ?_) (fun _ _ => ?_) PassesOwn.never
  · refine hb_set 1 (x_fnD (ok_plus T) (fsum (xs.take i), x) hr (a_cons (x_var 1) (a_cons (x_var 2) a_nil)) ⟨?_, ?_⟩) (hb_nil fun σ B' H' s' => ⟨(), trivial, ?_⟩) c_added.nd
    · have z := fsum_sz (n := 500) (xs := xs.take i) (fun y hy => hs y (List.mem_of_mem_take hy)) sz01
      refine sz_mono z ?_
      have : (xs.take i).length ≤ 6 := by rw [List.length_take]; omega
      have := Nat.mul_le_mul_right 501 this
      omega
    · exact sz_mono (hs x (List.mem_of_getElem? hx)) (by decide)
    · have e : fsum (xs.take (i + 1)) = fplus (fsum (xs.take i)) x := foldl_take fplus _ hx
      rw [e]
      exact s'.sub (sub_same (sub_same (sub_none sub_nil)))
  · rw [List.take_length]
    exact hb_ret (x_var 1) fun _ e => e
theorem tail_cut {xs : List D} {x : D} : cutD (x :: xs) (some 1) none = xs := by
  unfold cutD
  have e1 : HT.sIx (x :: xs).length 0 (some 1) = 1 := by
    rw [show (some (1 : Int)) = some ((1 : Nat) : Int) from rfl, HT.sIx_nat, List.length_cons]
    omega
  have e2 : HT.sIx (x :: xs).length (x :: xs).length none = (x :: xs).length := rfl
  rw [e1, e2, List.drop_succ_cons, List.drop_zero, List.length_cons, Nat.add_sub_cancel, List.take_length]
theorem ok_greatest_in (T : Fac K mg) : Ok P w K mg base "greatest_in" 3 ["some"] (Pm K (fun a : Fr × List Fr => [.lst ((a.1 :: a.2).map frD)]) (fun a => a.2.length ≤ 100 ∧ ∀ x ∈ a.1 :: a.2, Sz 10000 x) (fun a d => d = frD (fmax a.1 a.2))) := by
  refine okD (f_greatest_in T) (g_greatest_in T) c_greatest_in (fun _ => rfl) ?_
  intro cdv Ar outer s E J B H ⟨x, xs⟩ hr ⟨hl, hs⟩
  refine hb_set 1 (x_ixL (x_var 0) x_int at_zero) ?_ c_greatest_in.nd
  refine hb_forX (α := Unit) [2] frD (fun x Γ => Γ.set 2 (some (frD x))) (fun _ _ => True) (fun i _ => [some (.lst ((x :: xs).map frD)), some (frD (fmax x (xs.take i))), none]) (fun _ _ => []) () ((i_list (EvO.lst (o_slL (x_var 0) (ep_some (i := 1) x_int) ep_none))).is tail_cut) trivial (fun _ _ _ s => s) (fun x _ => tg_name 2 c_greatest_in.nd) (fun _ _ q h => by cases h) (fun i y _ hx _ => ?_) (fun _ _ => ?_) PassesOwn.never
  · refine hb_set 1 (x_fnD (ok_greater_of T) (fmax x (xs.take i), y) hr (a_cons (x_var 1) (a_cons (x_var 2) a_nil)) ⟨?_, hs y (List.mem_cons_of_mem _ (List.mem_of_getElem? hx))⟩) (hb_nil fun σ B' H' s' => ⟨(), trivial, ?_⟩) c_greatest_in.nd
    · exact fpick (f := fun a o => fless a o) (hs x List.mem_cons_self) fun z hz => hs z (List.mem_cons_of_mem _ (List.mem_of_mem_take hz))
    · have e : fmax x (xs.take (i + 1)) = _ := foldl_take _ _ hx
      rw [e]
      exact s'.sub (sub_same (sub_same (sub_none sub_nil)))
  · rw [List.take_length]
    exact hb_ret (x_var 1) fun _ e => e
theorem ok_least_in (T : Fac K mg) : Ok P w K mg base "least_in" 3 ["some"] (Pm K (fun a : Fr × List Fr => [.lst ((a.1 :: a.2).map frD)]) (fun a => a.2.length ≤ 100 ∧ ∀ x ∈ a.1 :: a.2, Sz 10000 x) (fun a d => d = frD (fmin a.1 a.2))) := by
  refine okD (f_least_in T) (g_least_in T) c_least_in (fun _ => rfl) ?_
  intro cdv Ar outer s E J B H ⟨x, xs⟩ hr ⟨hl, hs⟩
  refine hb_set 1 (x_ixL (x_var 0) x_int at_zero) ?_ c_least_in.nd
  refine hb_forX (α := Unit) [2] frD (fun x Γ => Γ.set 2 (some (frD x))) (fun _ _ => True) (fun i _ => [some (.lst ((x :: xs).map frD)), some (frD (fmin x (xs.take i))), none]) (fun _ _ => []) () ((i_list (EvO.lst (o_slL (x_var 0) (ep_some (i := 1) x_int) ep_none))).is tail_cut) trivial (fun _ _ _ s => s) (fun x _ => tg_name 2 c_least_in.nd) (fun _ _ q h => by cases h) (fun i y _ hx _ => ?_) (fun _ _ => ?_) PassesOwn.never
  · refine hb_set 1 (x_fnD (ok_lesser_of T) (fmin x (xs.take i), y) hr (a_cons (x_var 1) (a_cons (x_var 2) a_nil)) ⟨?_, hs y (List.mem_cons_of_mem _ (List.mem_of_getElem? hx))⟩) (hb_nil fun σ B' H' s' => ⟨(), trivial, ?_⟩) c_least_in.nd
    · exact fpick (f := fun a o => fless o a) (hs x List.mem_cons_self) fun z hz => hs z (List.mem_cons_of_mem _ (List.mem_of_mem_take hz))
    · have e : fmin x (xs.take (i + 1)) = _ := foldl_take _ _ hx
      rw [e]
      exact s'.sub (sub_same (sub_same (sub_none sub_nil)))
  · rw [List.take_length]
    exact hb_ret (x_var 1) fun _ e => e
theorem x_strC {X : Cx} {J : Jx} {Γ : Gam} {i : Str} {j p} {n : Nat} (h : i.length ≤ n) : Ev X J Γ (.Constant (.str i) j p) (StrN n) := (x_str).weak fun _ e => ⟨i, e, h⟩
theorem ok_written (T : Fac K mg) : Ok P w K mg base "written" 1 ["fraction"] (Pm K (fun a : Fr => [frD a]) (fun a => a.1.natAbs < 10 ^ 20 ∧ a.2.natAbs < 10 ^ 20) (fun _ d => StrN 43 d)) := by
  refine okD (f_written T) (g_written T) c_written (fun _ => rfl) ?_
  intro cdv Ar outer s E J B H a hr ⟨h1, h2⟩
  exact hb_ret (x_addS (m := 21 + 1) (n := 21) (x_addS (m := 21) (n := 1) (x_strI (x_ixT (x_var 0) x_int rfl) h1 (b_str T)) (x_strC (by decide))) (x_strI (x_ixT (x_var 0) x_int rfl) h2 (b_str T))) fun _ h => h
/-! ### the law's own fractions -/
theorem ok_Lcommon (T : Fac K mg) : Ok P w K mg base "_law_common" 1 ["_law_a", "_law_b"] (Pm K (fun a : Int × Int => [.int a.1, .int a.2]) (fun _ => True) (fun a d => d = .int (gcdI a.1 a.2))) := by
  refine okD (f_Lcommon T) (g_Lcommon T) c_Lcommon (fun _ => rfl) ?_
  intro cdv Ar outer s E J B H a hr _
  refine hb_par2 0 1 (x_abs (b_abs T) (x_var 0)) (x_abs (b_abs T) (x_var 1)) ?_ c_Lcommon.nd
  refine hb_while (α := Int × Int) (fun q => 0 ≤ q.1 ∧ 0 ≤ q.2 ∧ gcdI q.1 q.2 = gcdI a.1 a.2) (fun q => [some (.int q.1), some (.int q.2)]) (fun _ => []) (fun q => q.2.toNat) (fun q b => b = decide (0 < q.2)) (if a.1 < 0 then -a.1 else a.1, if a.2 < 0 then -a.2 else a.2)
    ⟨by show 0 ≤ (if a.1 < 0 then -a.1 else a.1); split <;> omega, by show 0 ≤ (if a.2 < 0 then -a.2 else a.2); split <;> omega, gcd_abs a.1 a.2⟩ (fun _ _ _ s => s) (fun q _ => t_gt (x_var 1) x_int) (fun q hq ht => ?_) (fun q hq ht => ?_) PassesOwn.never
  · have hpos : 0 < q.2 := by simpa using ht.symm
    obtain ⟨h0, h1, h2⟩ := hq
    refine hb_par2 0 1 (x_var 1) (x_mod (x_intI (b_int T) (x_var 0)) (x_var 1) hpos) (hb_nil fun σ B H s => ⟨(q.2, q.1 % q.2), ⟨h1, Int.emod_nonneg _ (by omega), (gcd_step q.1 q.2 h0 hpos).trans h2⟩, ?_, s⟩) c_Lcommon.nd
    have := Int.emod_lt_of_pos q.1 hpos
    show (q.1 % q.2).toNat < q.2.toNat
    omega
  · have hz : q.2 = 0 := by
      have : ¬ 0 < q.2 := by simpa using ht.symm
      omega
    obtain ⟨h0, h1, h2⟩ := hq
    rw [hz, gcd_zero _ h0] at h2
    exact hb_ret (x_var 0) fun d e => by rw [e, h2]
theorem ok_Llow (T : Fac K mg) : Ok P w K mg base "_law_low" 2 ["_law_top", "_law_bottom"] (Pm K (fun a : Int × Int => [.int a.1, .int a.2]) (fun a => Sz 8000 a) (fun a d => d = frD (low a.1 a.2))) := by
  refine okD (f_Llow T) (g_Llow T) c_Llow (fun _ => rfl) ?_
  intro cdv Ar outer s E J B H a hr hs
  have hc : CDivW a.1 (gcdI a.1 a.2) ∧ CDivW a.2 (gcdI a.1 a.2) := by
    have hg := gcd_pos (t := a.1) hs.2.1
    have hle := Int.le_of_dvd hs.2.1 (gcd_dvd a.1 a.2).2
    have hb : (gcdI a.1 a.2).natAbs < 2 ^ 8000 := Nat.lt_of_le_of_lt (by omega) hs.2.2
    exact ⟨wide_div hg hb (by decide) (by decide), wide_div hg hb (by decide) (by decide)⟩
  refine hb_set 2 (x_fnD (ok_Lcommon T) a hr (a_cons (x_var 0) (a_cons (x_var 1) a_nil)) trivial) ?_ c_Llow.nd
  exact hb_ret (x_tup (a_cons (x_div (x_var 0) (x_var 2) hc.1) (a_cons (x_div (x_var 1) (x_var 2) hc.2) a_nil))) fun _ e => e
theorem ok_Lplus (T : Fac K mg) : Ok P w K mg base "_law_plus" 3 ["_law_one", "_law_two"] (Pm K (fun a : Fr × Fr => [frD a.1, frD a.2]) (fun a => Sz 3900 a.1 ∧ Sz 3900 a.2) (fun a d => d = frD (fplus a.1 a.2))) := by
  refine okD (f_Lplus T) (g_Lplus T) c_Lplus (fun _ => rfl) ?_
  intro cdv Ar outer s E J B H a hr ⟨h1, h2⟩
  refine hb_ret (x_fnD (ok_Llow T) (a.1.1 * a.2.2 + a.2.1 * a.1.2, a.1.2 * a.2.2) hr (a_cons (x_add (x_mul (x_ixT (x_var 0) x_int rfl) (x_ixT (x_var 1) x_int rfl) ?_) (x_mul (x_ixT (x_var 1) x_int rfl) (x_ixT (x_var 0) x_int rfl) ?_)) (a_cons (x_mul (x_ixT (x_var 0) x_int rfl) (x_ixT (x_var 1) x_int rfl) ?_) a_nil)) ?_) fun _ e => e
  · exact wide_mul h1.1 h2.2.2 (by decide) (by decide) (by decide)
  · exact wide_mul h2.1 h1.2.2 (by decide) (by decide) (by decide)
  · exact wide_mul h1.2.2 h2.2.2 (by decide) (by decide) (by decide)
  · exact ⟨bd_mono (bd_add (bd_mul h1.1 h2.2.2) (bd_mul h2.1 h1.2.2)) (by decide), Int.mul_pos h1.2.1 h2.2.1, bd_mono (bd_mul h1.2.2 h2.2.2) (by decide)⟩
theorem ok_Ltimes (T : Fac K mg) : Ok P w K mg base "_law_times" 3 ["_law_one", "_law_two"] (Pm K (fun a : Fr × Fr => [frD a.1, frD a.2]) (fun a => Sz 3900 a.1 ∧ Sz 3900 a.2) (fun a d => d = frD (ftimes a.1 a.2))) := by
  refine okD (f_Ltimes T) (g_Ltimes T) c_Ltimes (fun _ => rfl) ?_
  intro cdv Ar outer s E J B H a hr ⟨h1, h2⟩
  refine hb_ret (x_fnD (ok_Llow T) (a.1.1 * a.2.1, a.1.2 * a.2.2) hr (a_cons (x_mul (x_ixT (x_var 0) x_int rfl) (x_ixT (x_var 1) x_int rfl) ?_) (a_cons (x_mul (x_ixT (x_var 0) x_int rfl) (x_ixT (x_var 1) x_int rfl) ?_) a_nil)) ?_) fun _ e => e
  · exact wide_mul h1.1 h2.1 (by decide) (by decide) (by decide)
  · exact wide_mul h1.2.2 h2.2.2 (by decide) (by decide) (by decide)
  · exact ⟨bd_mono (bd_mul h1.1 h2.1) (by decide), Int.mul_pos h1.2.1 h2.2.1, bd_mono (bd_mul h1.2.2 h2.2.2) (by decide)⟩
theorem ok_Lless (T : Fac K mg) : Ok P w K mg base "_law_less" 1 ["_law_one", "_law_two"] (Pm K (fun a : Fr × Fr => [frD a.1, frD a.2]) (fun a => Sz 10000 a.1 ∧ Sz 10000 a.2) (fun a d => d = .bl (fless a.1 a.2))) := by
  refine okD (f_Lless T) (g_Lless T) c_Lless (fun _ => rfl) ?_
  intro cdv Ar outer s E J B H a hr ⟨h1, h2⟩
  refine hb_ret (x_lt (x_mul (x_ixT (x_var 0) x_int rfl) (x_ixT (x_var 1) x_int rfl) ?_) (x_mul (x_ixT (x_var 1) x_int rfl) (x_ixT (x_var 0) x_int rfl) ?_)) fun _ e => e
  · exact wide_mul h1.1 h2.2.2 (by decide) (by decide) (by decide)
  · exact wide_mul h2.1 h1.2.2 (by decide) (by decide) (by decide)
theorem ok_Lleast (T : Fac K mg) : Ok P w K mg base "_law_least" 2 ["_law_some"] (Pm K (fun a : Fr × List Fr => [.lst ((a.1 :: a.2).map frD)]) (fun a => a.2.length ≤ 1000 ∧ ∀ x ∈ a.1 :: a.2, Sz 10000 x) (fun a d => d = frD (lleast a.1 (a.1 :: a.2)))) := by
  refine okD (f_Lleast T) (g_Lleast T) c_Lleast (fun _ => rfl) ?_
  intro cdv Ar outer s E J B H ⟨x, xs⟩ hr ⟨hl, hs⟩
  refine hb_set 1 (x_ixL (x_var 0) x_int at_zero) ?_ c_Lleast.nd
  refine hb_forX (α := Unit) (xs := x :: xs) [2] frD (fun x Γ => Γ.set 2 (some (frD x))) (fun _ _ => True) (fun i _ => [some (.lst ((x :: xs).map frD)), some (frD (lleast x ((x :: xs).take i))), none]) (fun _ _ => []) () (i_list (x_var 0)) trivial (fun _ _ _ s => s) (fun x _ => tg_name 2 c_Lleast.nd) (fun _ _ q h => by cases h) (fun i y _ hx _ => ?_) (fun _ _ => ?_) PassesOwn.never
  · have hf : Sz 10000 (lleast x ((x :: xs).take i)) := fpick (f := fun a o => fless o a) (hs x List.mem_cons_self) fun z hz => hs z (List.mem_of_mem_take hz)
    refine hb_asg (P := fun d => d = frD (if fless y (lleast x ((x :: xs).take i)) then y else lleast x ((x :: xs).take i))) 1 (O' := []) (x_if (t_bl (x_fnD (ok_Lless T) (y, lleast x ((x :: xs).take i)) hr (a_cons (x_var 2) (a_cons (x_var 1) a_nil)) ⟨hs y (List.mem_of_getElem? hx), hf⟩)) (fun e => (x_var 2).is (by rw [← e]; rfl)) (fun e => (x_var 1).is (by rw [← e]; rfl))) (fun d e => hb_nil fun σ B' H' s' => ⟨(), trivial, ?_⟩) (fun _ h => by cases h) c_Lleast.nd
    have e2 : lleast x ((x :: xs).take (i + 1)) = _ := foldl_take _ _ hx
    rw [e2]
    subst e
    exact s'.sub (sub_same (sub_same (sub_none sub_nil)))
  · rw [List.take_length]
    exact hb_ret (x_var 1) fun _ e => e
theorem ok_Lminus (T : Fac K mg) : Ok P w K mg base "_law_minus" 1 ["_law_one"] (Pm K (fun a : Fr => [frD a]) (fun _ => True) (fun a d => d = frD (fneg a))) := by
  refine okD (f_Lminus T) (g_Lminus T) c_Lminus (fun _ => rfl) ?_
  intro cdv Ar outer s E J B H a hr _
  exact hb_ret (x_tup (a_cons (x_sub x_int (x_ixT (x_var 0) x_int rfl)) (a_cons (x_ixT (x_var 0) x_int rfl) a_nil))) fun _ e => e
end
end Z
end
section
set_option Elab.async false
set_option linter.all false
set_option maxRecDepth 100000
set_option maxHeartbeats 400000
namespace Z
open PySem PySem.Spec PyProof.Rows L2 RZ
/-! ### quotes, books: plain -/
abbrev Qt : Type := List Int × Fr
abbrev qD (q : Qt) : D := .tup [.tup (q.1.map D.int), frD q.2]
/-- a fraction within bounds -/
def FrOk (t b : Int) (f : Fr) : Prop := -t ≤ f.1 ∧ f.1 ≤ t ∧ 1 ≤ f.2 ∧ f.2 ≤ b ∧ gcdI f.1 f.2 = 1
structure QtOk (k : Nat) (q : Qt) : Prop where
  len : q.1.length = k
  pay : ∀ n ∈ q.1, -1000 ≤ n ∧ n ≤ 1000
  pr : FrOk 1000000 1000 q.2
abbrev Bk : Type := Nat × List Qt
abbrev bD (b : Bk) : D := .book (b.1 : Nat) (b.2.map qD)
structure BkOk (b : Bk) : Prop where
  lo : 2 ≤ b.1
  hi : b.1 ≤ 6
  few : b.2.length ≤ 8
  qs : ∀ q ∈ b.2, QtOk b.1 q
structure ChOk (k : Nat) (ch : List Fr) : Prop where
  len : ch.length = k
  pt : ∀ c ∈ ch, FrOk 1000000000 1000000 c ∧ 0 ≤ c.1 ∧ c.1 ≤ c.2
  le : ∀ i, fless (1, 1) (fsum (ch.take i)) = false
  one : fsum ch = (1, 1)
  k6 : k ≤ 6
theorem FrOk.sz {f : Fr} (h : FrOk 1000000000 1000000 f) : Sz 30 f := by
  obtain ⟨h1, h2, h3, h4, _⟩ := h
  have e : (2 : Nat) ^ 30 = 1073741824 := by decide
  exact ⟨by rw [e]; omega, by omega, by rw [e]; omega⟩
theorem FrOk.sz2 {f : Fr} (h : FrOk 1000000 1000 f) : Sz 20 f := by
  obtain ⟨h1, h2, h3, h4, _⟩ := h
  have e : (2 : Nat) ^ 20 = 1048576 := by decide
  exact ⟨by rw [e]; omega, by omega, by rw [e]; omega⟩
section
variable {X : Cx} {J : Jx} {Γ : Gam} {e a b c : Expr} {es : List Expr} {pos p : Pos} {P : D → Prop} {d : D} {ds : List D}
/-- isinstance(a tuple, tuple) -/
theorem x_isTup {p2 : Pos} (hm : X.mg "isinstance" = none) (hmT : X.mg "tuple" = none) (ha : Ev X J Γ a (· = .tup ds)) (hg : Gl X "isinstance" := by rfl) (hgT : Gl X "tuple" := by rfl)
    (he : starEach [a, .Name "tuple" p2] X.env = (false, eval a X.env) :: starEach [.Name "tuple" p2] X.env := by rfl) (he2 : starEach [.Name "tuple" p2] X.env = (false, eval (.Name "tuple" p2) X.env) :: starEach [] X.env := by rfl) (hpl : (backTo pos (starEach [.Name "tuple" p2] X.env)).any (·.1) = false := by rfl) : Ev X J Γ (.Call (.Name "isinstance" p) [a, .Name "tuple" p2] [] pos) (· = .bl true) :=
  x_isi (T := "tuple") (t := "tuple") (r := true) ha rfl (by decide +kernel) hm hmT (by decide +kernel) hg hgT (by decide) (by decide) he he2 hpl
theorem no_len {n m : Int} {b : Bool} (e : b = !decide (V.int n = V.int m)) (h : n = m) : b = false := by
  rw [e, dec_vint, decide_eq_true h]
  rfl
end
section
variable {P : Program} {w : World} {K : PySem.W.Frag} {mg : Str → Option Value} {base : Heap}
theorem ok_is_fraction (T : Fac K mg) : Ok P w K mg base "is_fraction" 3 ["value", "top", "bottom"] (Pm K (fun a : Fr × Int × Int => [frD a.1, .int a.2.1, .int a.2.2]) (fun a => FrOk a.2.1 a.2.2 a.1) (fun _ d => d = .bl true)) := by
  refine okD (f_is_fraction T) (g_is_fraction T) c_is_fraction (fun _ => rfl) ?_
  rintro cdv Ar outer s E J B H a hr ⟨h1, h2, h3, h4, h5⟩
  refine hb_ifR (PT := fun k => k = false) (t_or (PA := fun k => k = false) ((t_notB (t_bl (x_isTup (b_isinstance T) (b_tuple T) (x_var 0)))).weak fun _ e => e) (fun _ => (t_ne (x_lenT (b_len T) (x_var 0)) x_int).weak fun _ e => no_len e rfl) (fun z => by cases z)) (fun z => by cases z) (fun _ => ?_)
  refine hb_ifR (PT := fun k => k = false) (t_or (PA := fun k => k = false) ((t_notB (t_bl (x_fnD (ok_is_between T) (a.1.1, -a.2.1, a.2.1) hr (a_cons (x_ixT (x_var 0) x_int rfl) (a_cons (x_neg (i := a.2.1) (x_var 1)) (a_cons (x_var 1) a_nil))) trivial))).weak fun _ e => ?_) (fun _ => (t_notB (t_bl (x_fnD (ok_is_between T) (a.1.2, 1, a.2.2) hr (a_cons (x_ixT (x_var 0) x_int rfl) (a_cons x_int (a_cons (x_var 2) a_nil))) trivial))).weak fun _ e => ?_) (fun z => by cases z)) (fun z => by cases z) (fun _ => ?_)
  · rw [e]
    show (!(decide (-a.2.1 ≤ a.1.1) && decide (a.1.1 ≤ a.2.1))) = false
    rw [decide_eq_true h1, decide_eq_true h2]
    rfl
  · rw [e]
    show (!(decide (1 ≤ a.1.2) && decide (a.1.2 ≤ a.2.2))) = false
    rw [decide_eq_true h3, decide_eq_true h4]
    rfl
  · refine hb_ret (x_eq (x_fnD (ok_common_divisor T) (a.1.1, a.1.2) hr (a_cons (x_ixT (x_var 0) x_int rfl) (a_cons (x_ixT (x_var 0) x_int rfl) a_nil)) trivial) x_int) fun d e => ?_
    rw [e, dec_vint]
    show D.bl (decide (gcdI a.1.1 a.1.2 = 1)) = .bl true
    rw [decide_eq_true h5]
theorem all_true {α : Type} (xs : List α) : ((xs.map fun _ => true).all id) = true := by
  induction xs with
  | nil => rfl
  | cons x xs ih => rw [List.map_cons, List.all_cons, ih]; rfl
theorem x_MOST {X : Cx} {J : Jx} {Γ : Gam} {x : Str} {i : Int} {p : Pos} (h : ∃ t, X.mg x = some (.int i t)) (hg : Gl X x := by rfl) (hd : (x == ("__debug__" : Str)) = false := by decide) : Ev X J Γ (.Name x p) (· = .int i) := by
  obtain ⟨t, e⟩ := h
  exact x_gint e hg hd
theorem ok_is_payoff (T : Fac K mg) : Ok P w K mg base "is_payoff" 3 ["value", "outcomes"] (Pm K (fun a : List Int × Nat => [.tup (a.1.map D.int), .int (a.2 : Nat)]) (fun a => a.1.length = a.2 ∧ a.2 ≤ 6 ∧ ∀ n ∈ a.1, -1000 ≤ n ∧ n ≤ 1000) (fun _ d => d = .bl true)) := by
  refine okD (f_is_payoff T) (g_is_payoff T) c_is_payoff (fun _ => rfl) ?_
  rintro cdv Ar outer s E J B H a hr ⟨h1, h2, h3⟩
  refine hb_ifR (PT := fun k => k = false) (t_or (PA := fun k => k = false) ((t_notB (t_bl (x_isTup (b_isinstance T) (b_tuple T) (x_var 0)))).weak fun _ e => e) (fun _ => (t_ne (x_lenT (b_len T) (x_var 0)) (x_var 1)).weak fun _ e => no_len e (by rw [List.length_map, h1])) (fun z => by cases z)) (fun z => by cases z) (fun _ => ?_)
  refine hb_ret (x_all (bs := a.1.map fun _ => true) (b_all T) (EvO.lst ((o_lc [("number", 2)] [2] (xs := a.1) D.int (fun i Γ => Γ.set 2 (some (.int i))) (fun _ => D.bl true) (i_tup (x_var 0)) c_is_payoff.nd (blk n_is_payoff (defScope s_is_payoff)) (by omega) ?_).is (by rw [List.map_map]; rfl)))) (fun d e => by rw [e, all_true])
  rintro n hn Y ⟨_, _, _, _, _, rfl⟩
  refine ⟨tg_name 2 c_is_payoff.nd, Ev.is (x_fnD (ok_is_between T) (n, -1000, 1000) hr (a_cons (x_var 2) (a_cons (x_neg (i := 1000) (x_MOST (i_MOST_NUMBER T))) (a_cons (x_MOST (i_MOST_NUMBER T)) a_nil))) trivial) ?_⟩
  show D.bl (decide (-1000 ≤ n) && decide (n ≤ 1000)) = .bl true
  rw [decide_eq_true (h3 n hn).1, decide_eq_true (h3 n hn).2]
  rfl
theorem ok_is_price (T : Fac K mg) : Ok P w K mg base "is_price" 4 ["value"] (Pm K (fun a : Fr => [frD a]) (fun a => FrOk 1000000 1000 a) (fun _ d => d = .bl true)) := by
  refine okD (f_is_price T) (g_is_price T) c_is_price (fun _ => rfl) ?_
  intro cdv Ar outer s E J B H a hr h
  exact hb_ret (x_fnD (ok_is_fraction T) (a, 1000000, 1000) hr (a_cons (x_var 0) (a_cons (x_MOST (i_MOST_PRICE_TOP T)) (a_cons (x_MOST (i_MOST_PRICE_BOTTOM T)) a_nil))) h) fun _ e => e
theorem ok_is_quote (T : Fac K mg) : Ok P w K mg base "is_quote" 5 ["value", "outcomes"] (Pm K (fun a : Qt × Nat => [qD a.1, .int (a.2 : Nat)]) (fun a => QtOk a.2 a.1 ∧ a.2 ≤ 6) (fun _ d => d = .bl true)) := by
  refine okD (f_is_quote T) (g_is_quote T) c_is_quote (fun _ => rfl) ?_
  rintro cdv Ar outer s E J B H a hr ⟨h, h6⟩
  refine hb_ifR (PT := fun k => k = false) (t_or (PA := fun k => k = false) ((t_notB (t_bl (x_isTup (b_isinstance T) (b_tuple T) (x_var 0)))).weak fun _ e => e) (fun _ => (t_ne (x_lenT (b_len T) (x_var 0)) x_int).weak fun _ e => no_len e rfl) (fun z => by cases z)) (fun z => by cases z) (fun _ => ?_)
  exact hb_ret (P := fun d => d = .bl true) (x_and (k := true) (x_fnD (ok_is_payoff T) (a.1.1, a.2) hr (a_cons (x_ixT (x_var 0) x_int rfl) (a_cons (x_var 1) a_nil)) ⟨h.len, h6, h.pay⟩) (fun _ => x_fnD (ok_is_price T) a.1.2 hr (a_cons (x_ixT (x_var 0) x_int rfl) a_nil) h.pr) (fun z => by cases z)) fun _ e => e
theorem ok_check_quotes (T : Fac K mg) : Ok P w K mg base "check_quotes" 6 ["quotes", "outcomes"] (Pm K (fun a : List Qt × Nat => [.tup (a.1.map qD), .int (a.2 : Nat)]) (fun a => a.1.length ≤ 8 ∧ a.2 ≤ 6 ∧ ∀ q ∈ a.1, QtOk a.2 q) (fun _ d => d = .non)) := by
  refine okD (f_check_quotes T) (g_check_quotes T) c_check_quotes (fun _ => rfl) ?_
  rintro cdv Ar outer s E J B H a hr ⟨h8, h6, h⟩
  refine hb_ifR (PT := fun k => k = false) ((t_notB (t_bl (x_isTup (b_isinstance T) (b_tuple T) (x_var 0)))).weak fun _ e => e) (fun z => by cases z) (fun _ => ?_)
  refine hb_forX (α := Unit) (xs := a.1.zipIdx) [2, 3] (fun q : Qt × Nat => D.tup [.int (q.2 : Nat), qD q.1]) (fun q Γ => (Γ.set 2 (some (.int (q.2 : Nat)))).set 3 (some (qD q.1))) (fun _ _ => True) (fun _ _ => [some (.tup (a.1.map qD)), some (.int (a.2 : Nat)), none, none]) (fun _ _ => []) () ((i_enumT (x_var 0) (b_enumerate T)).is ?_) trivial (fun _ _ _ s => s) (fun q _ => tg_pair 2 3 c_check_quotes.nd) (fun _ _ q h => by cases h) (fun i q _ hq _ => ?_) (fun _ _ => hb_nil fun σ B' H' s' => ⟨s'.st, rfl⟩) PassesOwn.never
  · rw [List.zipIdx_map, List.map_map]
    rfl
  · obtain ⟨h1, h2⟩ : q.1 ∈ a.1 ∧ q.2 < 8 := by
      rw [List.getElem?_zipIdx] at hq
      cases hz : a.1[i]? with
      | none => rw [hz] at hq; cases hq
      | some z =>
        rw [hz] at hq
        have : (z, 0 + i) = q := Option.some.inj hq
        subst this
        have := (List.getElem?_eq_some_iff.mp hz).1
        exact ⟨List.mem_of_getElem? hz, by show 0 + i < 8; omega⟩
    refine hb_ifR (PT := fun k => k = false) (t_or (PA := fun k => k = false) ((t_eq (x_var 2) (x_MOST (i_MOST_QUOTES T))).weak fun _ e => ?_) (fun _ => (t_notB (t_bl (x_fnD (ok_is_quote T) (q.1, a.2) hr (a_cons (x_var 3) (a_cons (x_var 1) a_nil)) ⟨h _ h1, h6⟩))).weak fun _ e => e) (fun z => by cases z)) (fun z => by cases z) (fun _ => hb_nil fun σ B' H' s' => ⟨(), trivial, s'.sub (sub_same (sub_same (sub_none (sub_none sub_nil))))⟩)
    rw [e, dec_vint]
    exact decide_eq_false (by omega)
theorem ok_quote_text (T : Fac K mg) : Ok P w K mg base "quote_text" 2 ["quote"] (Pm K (fun a : Qt => [qD a]) (fun a => ∃ k, k ≤ 6 ∧ QtOk k a) (fun _ d => StrN 1000 d)) := by
  refine okD (f_quote_text T) (g_quote_text T) c_quote_text (fun _ => rfl) ?_
  rintro cdv Ar outer s E J B H a hr ⟨k, h6, h⟩
  have hl := h.len
  refine hb_ret (x_addS (m := 6 * 21 + 6 + 2) (n := 43) (x_addS (m := 6 * 21 + 6) (n := 2) (x_join (k := 6) (n := 21) (EvO.ev (lcP (α := Int) (PL := fun ds => ∃ ss : List Str, ds = ss.map D.str ∧ ss.length ≤ 6 ∧ ∀ s ∈ ss, s.length ≤ 21) (own := [("number", 1)]) (sl := [1]) D.int (fun i Γ => Γ.set 1 (some (.int i))) (fun _ => true) (fun _ d => StrN 21 d) (i_tup (x_ixT (x_var 0) x_int rfl)) c_quote_text.nd (blk n_quote_text (defScope s_quote_text)) (by simp) (fun ds e => ⟨a.1, e, by omega, fun n hn Y hY => ?_, fun ys hy => ?_⟩)) (fun ds ⟨ss, e1, e2, e3⟩ => ⟨ss, by rw [e1], e2, e3⟩)) (by decide)) (x_strC (by decide))) (x_fn (P := StrN 43) (ok_written T) hr (by decide) (a_cons (x_ixT (x_var 0) x_int rfl) a_nil) (fun ds e => ⟨a.2, e, ?_, fun d h => h⟩))) fun d h => h.mono (by decide)
  · obtain ⟨_, _, _, _, _, rfl⟩ := hY
    have := h.pay n hn
    exact ⟨tg_name 1 c_quote_text.nd, ts_nil, fun _ => x_strI (x_var 1) (by omega) (b_str T)⟩
  · have len := hy.length
    have : ∀ {xs : List Int} {ys : List D}, Made (fun _ => true) (fun _ d => StrN 21 d) xs ys → ∃ ss : List Str, ys = ss.map D.str ∧ ∀ s ∈ ss, s.length ≤ 21 := by
      intro xs ys h
      induction h with
      | nil => exact ⟨[], rfl, fun _ h => by cases h⟩
      | yes _ h _ ih =>
        obtain ⟨ss, e1, e2⟩ := ih
        obtain ⟨x, e3, e4⟩ := h
        refine ⟨x :: ss, by rw [e1, e3]; rfl, fun s hs => ?_⟩
        rcases List.mem_cons.mp hs with z | z
        · rw [z]; exact e4
        · exact e2 s z
      | no _ _ ih => exact ih
    obtain ⟨ss, e1, e2⟩ := this hy
    exact ⟨ss, e1, by rw [e1, List.length_map] at len; omega, e2⟩
  · obtain ⟨p1, p2, p3, p4, _⟩ := h.pr
    exact ⟨by omega, by omega⟩
end
end Z
end
section
set_option Elab.async false
set_option linter.all false
set_option maxRecDepth 100000
set_option maxHeartbeats 400000
namespace Z
open PySem PySem.Spec PyProof.Rows L2 RZ
theorem Stp.frz1 {J : Jx} {B H0 B' H' : Hp} {a : Addr} {o : HO} (s : Stp J B H0 B' H') (r : Rs J H0 a o B' H') : Stp J B H0 (upd B' a o) H' := by
  refine ⟨s.b.trans (same_upd r.out), s.w.push (same_upd r.out) (fun b u e => ?_) (fun x hx => ?_), fun y hy h1 h2 => ?_⟩
  · by_cases z : b = a
    · subst z
      rw [upd_same] at e
      cases e
      exact r.at_
    · rw [upd_ne z] at e
      exact s.w.s _ _ e
  · have ne : x ≠ a := fun z => r.nj (by rw [← z]; exact hx)
    exact ⟨by rw [upd_ne ne]; exact (s.w.has hx).1, rfl⟩
  · have ne : y ≠ a := fun z => h2 (by rw [z]; exact r.new)
    obtain ⟨e1, e2⟩ := s.own y hy h1 h2
    exact ⟨by rw [upd_ne ne]; exact e1, e2⟩
/-- a list of texts -/
def StrsL (k n : Nat) (ds : List D) : Prop := ∃ ss : List Str, ds = ss.map D.str ∧ ss.length ≤ k ∧ ∀ s ∈ ss, s.length ≤ n
theorem made_strs {α : Type} {n : Nat} {xs : List α} {ys : List D} (h : Made (fun _ => true) (fun _ d => StrN n d) xs ys) : StrsL xs.length n ys := by
  induction h with
  | nil => exact ⟨[], rfl, Nat.zero_le _, fun _ h => by cases h⟩
  | yes _ h _ ih =>
    obtain ⟨ss, e1, e2, e3⟩ := ih
    obtain ⟨x, e4, e5⟩ := h
    refine ⟨x :: ss, by rw [e1, e4]; rfl, by simpa using e2, fun s hs => ?_⟩
    rcases List.mem_cons.mp hs with z | z
    · rw [z]; exact e5
    · exact e3 s z
  | no _ _ ih =>
    obtain ⟨ss, e1, e2, e3⟩ := ih
    exact ⟨ss, e1, Nat.le_succ_of_le e2, e3⟩
def spBook (K : PySem.W.Frag) : Sp := fun vs Hc Q _ => ∃ (J : Jx) (B H0 : Hp) (a dx : Addr) (b : Bk) (v1 v2 : V), W J B H0 ∧ H0 a = none ∧ H0 dx = none ∧ dx ≠ a ∧ Hc = upd (upd H0 dx (.own a)) a (.ins (bookC K) dx []) ∧ vs = [.ref a, v1, v2] ∧
  Dens K J [.int (b.1 : Nat), .tup (b.2.map qD)] B [v1, v2] ∧ BkOk b ∧ ∀ B' H', Den K J (bD b) B' (.ref a) → Stp J B H0 B' H' → Q .non H'
section
variable {P : Program} {w : World} {K : PySem.W.Frag} {mg : Str → Option Value} {base : Heap}
theorem ok_Book_init (T : Fac K mg) : OkA P w K mg base 7 (He.ma K (He.ga K "Book") "__init__") ["self", "outcomes", "quotes"] (spBook K) := by
  obtain ⟨fd, F, b⟩ := f_Book_init T
  refine ⟨fd, ?_, b⟩
  refine F.ok c_Book_init (fun vs H Q E h => ?_) (fun cdv A outer sh Hc vs Q E hr h => ?_)
  · obtain ⟨J, B, H0, a, dx, b, v1, v2, _, _, _, _, _, e, _⟩ := h
    rw [e]
    rfl
  obtain ⟨J, B, H0, a, dx, b, v1, v2, hw, ha, hdx, hne, rfl, rfl, hd, hb, post⟩ := h
  have h2 := hb.lo
  have h6 := hb.hi
  have h8 := hb.few
  refine ⟨_, wpSs.pss, ?_⟩
  have t1 := Stp.newO hw (o := .own a) hdx
  have ha2 : (upd H0 dx (.own a)) a = none := by rw [upd_ne (Ne.symm hne)]; exact ha
  have t2 := t1.trans (Stp.newO t1.w (o := .ins (bookC K) dx []) ha2)
  have r0 : Rs J H0 a (.ins (bookC K) dx []) B (upd (upd H0 dx (.own a)) a (.ins (bookC K) dx [])) := ⟨hw.free ha, hw.nh ha, ha, upd_same⟩
  have s0 : S K J B H0 [some (.adr a), some (.int (b.1 : Nat)), some (.tup (b.2.map qD)), none] [] (L2.start n_Book_init [.ref a, v1, v2]) B (upd (upd H0 dx (.own a)) a (.ins (bookC K) dx [])) := by
    have z := S.start (N := n_Book_init) (ds := [.adr a, .int (b.1 : Nat), .tup (b.2.map qD)]) (vs := [.ref a, v1, v2]) t2.w (dens_cons.mpr ⟨_, _, rfl, den_adr.mpr rfl, hd⟩)
    exact ⟨t2, z.fit, fun q hq => (by cases hq), fun q hq => (by cases hq), z.len⟩
  refine (show HB (bx P w K mg base n_Book_init "Book.__init__" s_Book_init (He.ma K (He.ga K "Book") "__init__") cdv A outer sh (upd (upd H0 dx (.own a)) a (.ins (bookC K) dx [])) E) (defBody s_Book_init) (SF (bx P w K mg base n_Book_init "Book.__init__" s_Book_init (He.ma K (He.ga K "Book") "__init__") cdv A outer sh (upd (upd H0 dx (.own a)) a (.ins (bookC K) dx [])) E) J B H0 [some (.adr a), some (.int (b.1 : Nat)), some (.tup (b.2.map qD)), none] (Rs J H0 a (.ins (bookC K) dx [])))
    (fun _ B' H' => ∃ B2, Same B' B2 ∧ Den K J (bD b) B2 (.ref a) ∧ Stp J B H0 B2 H') (fun _ _ _ => False) from ?_) _ B _ ⟨s0, r0⟩ _ (fun σ' B' H' _ ⟨B2, _, k1, k2⟩ => post B2 H' k1 k2) (fun _ _ _ _ z => z.elim)
  refine hb_ifRF ((t_notB (t_bl (x_fnD (ok_is_between T) ((b.1 : Nat), 2, 6) hr (a_cons (x_var 1) (a_cons x_int (a_cons (x_MOST (i_MOST_OUTCOMES T)) a_nil))) trivial))).weak fun _ e => ?_) stb_rs ?_
  · rw [e]
    show (!(decide ((2 : Int) ≤ (b.1 : Nat)) && decide (((b.1 : Nat) : Int) ≤ 6))) = false
    rw [decide_eq_true (by omega), decide_eq_true (by omega)]
    rfl
  refine hb_exprF (P := (· = .non)) (x_fn (ok_check_quotes T) hr (by decide) (a_cons (x_var 2) (a_cons (x_var 1) a_nil)) (fun ds e => ⟨(b.2, b.1), e, ⟨h8, h6, hb.qs⟩, fun d h => h⟩)) stb_rs ?_
  refine hb_cons (hs_fldF (P := (· = .tup [.int (b.1 : Nat), .tup (b.2.map qD)])) (x_var 0) (x_tup (a_cons (x_var 1) (a_cons (x_var 2) a_nil))) (k_Book T) (no_Book_held T) (by decide) stb_rs (fun _ _ h => h) (G := fun B H => ∃ v, Rs J H0 a (.ins (bookC K) dx [("held", v)]) B H ∧ Den K J (.tup [.int (b.1 : Nat), .tup (b.2.map qD)]) B v) (fun d v B1 H1 e hd f => by subst e; exact ⟨v, f.chg, hd⟩)) ?_
  refine .exF fun v => ?_
  refine hb_cons (hs_fldF (P := StrN 9009) (x_var 0) (x_join (k := 9) (n := 1000) (EvO.ev (P := Strs 9 1000) (o_catP (PA := StrsL 1 1000) (PB := StrsL 8 1000) (PL := StrsL 9 1000) (EvO.ev (o_lstP (PS := StrsL 1 1000) (P := StrsL 1 1000) (a_consP (PA := StrN 1000) (PS := (· = [])) ((x_addS (m := 21) (n := 1) (x_strI (x_var 1) (by omega) (b_str T)) (x_strC (by decide))).weak fun d h => h.mono (by decide)) a_nil (fun d ds ⟨x, e1, e2⟩ e3 => ⟨[x], by rw [e1, e3]; rfl, Nat.le_refl _, fun s hs => by rw [List.mem_singleton.mp hs]; exact e2⟩)) (fun ds h => ⟨by obtain ⟨ss, e, l, _⟩ := h; rw [e, List.length_map]; omega, h⟩)) (fun ds h => ⟨ds, rfl, h⟩))
    (EvO.ev (lcP (α := Qt) (PL := StrsL 8 1000) (own := [("quote", 3)]) (sl := [3]) qD (fun q Γ => Γ.set 3 (some (qD q))) (fun _ => true) (fun _ d => StrN 1000 d) (i_tup (x_var 2)) c_Book_init.nd (blk n_Book_init (defScope s_Book_init)) (by simp) (fun ds e => ⟨b.2, e, by omega, fun q hq Y hY => ?_, fun ys hy => ?_⟩)) (fun ds h => ⟨ds, rfl, h⟩)) ?_) (fun ds ⟨ss, e1, e2, e3⟩ => ⟨ss, by rw [e1], e2, e3⟩)) (by decide)) (k_Book T) (no_Book_words T) (by show 1 < 1000; decide) (stb_and stb_rs stb_den) (fun _ _ h => h.1)
    (G := fun B H => ∃ z : Str, Rs J H0 a (.ins (bookC K) dx [("held", v), ("words", .str z)]) B H ∧ Den K J (.tup [.int (b.1 : Nat), .tup (b.2.map qD)]) B v) (fun d u B1 H1 ⟨z, e, _⟩ hd f => by subst e; rw [den_str.mp hd]; exact ⟨z, f.1.chg, f.2⟩)) ?_
  · obtain ⟨_, _, _, _, _, rfl⟩ := hY
    exact ⟨tg_name 3 c_Book_init.nd, ts_nil, fun _ => x_fn (ok_quote_text T) hr (by decide) (a_cons (x_var 3) a_nil) (fun ds e => ⟨q, e, ⟨b.1, h6, hb.qs q hq⟩, fun d h => h⟩)⟩
  · obtain ⟨ss, e1, e2, e3⟩ := made_strs hy
    exact ⟨ss, e1, by omega, e3⟩
  · rintro xs ys ⟨s1, e1, l1, m1⟩ ⟨s2, e2, l2, m2⟩
    refine ⟨by rw [e1, e2, List.length_map, List.length_map]; omega, s1 ++ s2, by rw [e1, e2, List.map_append], by rw [List.length_append]; omega, fun s hs => ?_⟩
    rcases List.mem_append.mp hs with h | h
    · exact m1 s h
    · exact m2 s h
  refine .exF fun z => hb_nil fun σ B1 H1 ⟨s1, f1, f2⟩ => ?_
  refine ⟨_, same_upd f1.out, ?_, s1.st.frz1 f1⟩
  obtain ⟨h, vs, rfl, k1, k2⟩ := den_tup.mp f2
  obtain ⟨x1, r1, e1, k3, k4⟩ := dens_cons.mp k2
  obtain ⟨x2, r2, e2, k5, k6⟩ := dens_cons.mp k4
  have e3 := dens_nil.mp k6
  subst e3 e2 e1
  obtain ⟨t, us, rfl, k7, k8⟩ := den_tup.mp k5
  rw [den_int.mp k3] at k1
  have sb := same_upd (o := HO.ins (bookC K) dx [("held", .ref h), ("words", .str z)]) f1.out
  exact den_book.mpr ⟨a, dx, h, t, z, us, rfl, upd_same, sb _ _ k1, sb _ _ k7, k8.mono sb⟩
theorem ok_outcomes (T : Fac K mg) : OkA P w K mg base 1 (ZH.pg K "Book" "outcomes") ["self"] (Pm K (fun b : Bk => [bD b]) (fun _ => True) (fun b d => d = .int (b.1 : Nat))) := by
  refine okA (f_Book_outcomes T) c_Book_outcomes (fun _ => rfl) ?_
  intro cdv Ar outer s E J B H b hr _
  exact hb_ret (x_ixT (x_held T (x_var 0)) x_int rfl) fun _ e => e
theorem ok_quotes (T : Fac K mg) : OkA P w K mg base 1 (ZH.pg K "Book" "quotes") ["self"] (Pm K (fun b : Bk => [bD b]) (fun _ => True) (fun b d => d = .tup (b.2.map qD))) := by
  refine okA (f_Book_quotes T) c_Book_quotes (fun _ => rfl) ?_
  intro cdv Ar outer s E J B H b hr _
  exact hb_ret (x_ixT (x_held T (x_var 0)) x_int rfl) fun _ e => e
end
section
variable {X : Cx} {J : Jx} {Γ : Gam} {e a b c : Expr} {es : List Expr} {pos p : Pos} {P : D → Prop} {d : D} {k : Nat}
theorem x_out {b : Bk} (T : Fac X.K X.mg) (hr : Room k X.A) (hk : 2 ≤ k) (ha : Ev X J Γ a (· = bD b)) (hab : attributeBase a "outcomes" X.env (eval a X.env) = eval a X.env := by rfl) : Ev X J Γ (.Attribute a "outcomes" pos) (· = .int (b.1 : Nat)) :=
  x_prop T (p_outcomes T) (ok_outcomes T) hr hk ha b rfl trivial (fun _ h => h) hab
theorem x_quo {b : Bk} (T : Fac X.K X.mg) (hr : Room k X.A) (hk : 2 ≤ k) (ha : Ev X J Γ a (· = bD b)) (hab : attributeBase a "quotes" X.env (eval a X.env) = eval a X.env := by rfl) : Ev X J Γ (.Attribute a "quotes" pos) (· = .tup (b.2.map qD)) :=
  x_prop T (p_quotes T) (ok_quotes T) hr hk ha b rfl trivial (fun _ h => h) hab
/-- Book(outcomes, quotes) -/
theorem x_Book {bk : Bk} (T : Fac X.K X.mg) (hr : Room k X.A) (hk : 8 ≤ k) (ha : EvA X J Γ [a, b] (· = [.int (bk.1 : Nat), .tup (bk.2.map qD)])) (hb : BkOk bk) (hg : Gl X "Book" := by rfl) (he : starEach [a, b] X.env = (false, eval a X.env) :: starEach [b] X.env := by rfl) (hpl : (backTo pos (starEach [b] X.env)).any (·.1) = false := by rfl) :
    Ev X J Γ (.Call (.Name "Book" p) [a, b] [] pos) (· = bD bk) := fun σ B H w f Q qq => by
  obtain ⟨fd, F, bd⟩ := ok_Book_init (P := X.prog) (w := X.w) (base := X.base) T
  refine ofE (pe_make (E := fun _ _ _ => False) (m_Book T) F (hr.mono hk) hg (g_Book T) bd .nil pass0 wpA.pa (by decide) he hpl) (ha σ B H w f _ fun ds vs B1 H1 ed s1 dd => ?_)
  subst ed
  obtain ⟨v1, r1, e1, h1, dd'⟩ := dens_cons.mp dd
  obtain ⟨v2, r2, e2, h2, dd'⟩ := dens_cons.mp dd'
  have e4 := dens_nil.mp dd'
  subst e4 e2 e1
  intro p1 dx hp hdx hne
  exact ⟨J, B1, H1, p1, dx, bk, v1, v2, s1.w, hp, hdx, hne, rfl, by rw [List.append_nil], dd, hb, fun B2 H2 hd s2 => ⟨rfl, qq _ _ B2 H2 rfl (s1.trans s2) hd⟩⟩
end
end Z
end
section
set_option Elab.async false
set_option linter.all false
set_option maxRecDepth 100000
set_option maxHeartbeats 400000
namespace Z
open PySem PySem.Spec PyProof.Rows L2 RZ
/-! ### plain -/
def lessQ (b : Bk) (i : Nat) : Bk := (b.1, b.2.take i ++ b.2.drop (i + 1))
theorem BkOk.less {b : Bk} (h : BkOk b) (i : Nat) : BkOk (lessQ b i) := by
  refine ⟨h.lo, h.hi, ?_, fun q hq => ?_⟩
  · show (b.2.take i ++ b.2.drop (i + 1)).length ≤ 8
    have := h.few
    rw [List.length_append, List.length_take, List.length_drop]
    omega
  · rcases List.mem_append.mp hq with z | z
    · exact h.qs q (List.mem_of_mem_take z)
    · exact h.qs q (List.mem_of_mem_drop z)
theorem cut_to {α : Type} {f : α → D} {xs : List α} {i : Nat} (hi : i ≤ xs.length) : cutD (xs.map f) none (some (i : Int)) = (xs.take i).map f := by
  unfold cutD
  rw [HT.sIx_none, HT.sIx_nat, List.drop_zero, Nat.sub_zero, List.length_map, Nat.min_eq_left hi, List.map_take]
theorem cut_from {α : Type} {f : α → D} {xs : List α} {i : Nat} (hi : i ≤ xs.length) : cutD (xs.map f) (some (i : Int)) none = (xs.drop i).map f := by
  unfold cutD
  rw [HT.sIx_none, HT.sIx_nat, List.length_map, Nat.min_eq_left hi, ← List.map_drop, List.take_of_length_le (by rw [List.length_map, List.length_drop]; exact Nat.le_refl _)]
/-- what a quote brings at an outcome, so many times as its price's bottom -/
def gain (q : Qt) (x : Nat) : Int := q.1.getD x 0 * q.2.2 - q.2.1
def gains (qs : List Qt) (x : Nat) : List Int := qs.map fun q => gain q x
def PayOk (k : Nat) (pay : List Int) : Prop := pay.length = k ∧ ∀ n ∈ pay, -1000 ≤ n ∧ n ≤ 1000
/-- the sizes of what is reckoned with -/
def ChSz (ch : List Fr) : Prop := ch.length ≤ 6 ∧ ∀ c ∈ ch, Sz 300 c
theorem ChOk.sz {k : Nat} {ch : List Fr} (h : ChOk k ch) : ChSz ch := ⟨by rw [h.len]; exact h.k6, fun c hc => sz_mono (h.pt c hc).1.sz (by decide)⟩
theorem pay_bd {n : Int} (h : -1000 ≤ n ∧ n ≤ 1000) : n.natAbs < 2 ^ 20 := by
  have e : (2 : Nat) ^ 20 = 1048576 := by decide
  rw [e]; omega
def term (q : Int × Fr) : Fr := low (q.1 * q.2.1) q.2.2
theorem term_sz {n : Int} {c : Fr} (hn : n.natAbs < 2 ^ 20) (hc : Sz 300 c) : Sz 320 (term (n, c)) := low_sz ⟨bd_mono (bd_mul hn hc.1) (by decide), hc.2.1, bd_mono hc.2.2 (by decide)⟩
theorem worth_fold (pay : List Int) (ch : List Fr) : worth pay ch = fsum ((pay.zip ch).map term) := by
  unfold worth fsum
  rw [List.foldl_map]
  rfl
theorem worth_sz {pay : List Int} {ch : List Fr} (hp : ∀ n ∈ pay, -1000 ≤ n ∧ n ≤ 1000) (hc : ChSz ch) : Sz 2000 (worth pay ch) := by
  rw [worth_fold]
  have z := fsum_sz (n := 320) (xs := (pay.zip ch).map term) (fun x hx => ?_) sz01
  · refine sz_mono z ?_
    have : ((pay.zip ch).map term).length ≤ 6 := by
      rw [List.length_map, List.length_zip]
      have := hc.1
      omega
    have := Nat.mul_le_mul_right 321 this
    omega
  · obtain ⟨q, hq, rfl⟩ := List.mem_map.mp hx
    exact term_sz (pay_bd (hp _ (List.of_mem_zip hq).1)) (hc.2 _ (List.of_mem_zip hq).2)
section
variable {P : Program} {w : World} {K : PySem.W.Frag} {mg : Str → Option Value} {base : Heap}
theorem ok_less_one (T : Fac K mg) : Ok P w K mg base "less_one" 9 ["book", "index"] (Pm K (fun a : Bk × Nat => [bD a.1, .int (a.2 : Nat)]) (fun a => BkOk a.1 ∧ a.2 < a.1.2.length) (fun a d => d = bD (lessQ a.1 a.2))) := by
  refine okD (f_less_one T) (g_less_one T) c_less_one (fun _ => rfl) ?_
  rintro cdv Ar outer s E J B H ⟨b, i⟩ hr ⟨hb, hi⟩
  have hi : i < b.2.length := hi
  have h8 : b.2.length ≤ 8 := hb.few
  refine hb_ret (x_Book (bk := lessQ b i) T hr (by decide) (a_cons (x_out (b := b) T hr (by decide) (x_var 0)) (a_cons (Ev.is (x_tup (a_star (xs := (b.2.take i).map qD) ((x_slT (x_quo (b := b) T hr (by decide) (x_var 0)) ep_none (ep_some (i := (i : Nat)) (x_var 1))).weak fun d e => .inr (by rw [e, cut_to (Nat.le_of_lt hi)])) (a_star (xs := (b.2.drop (i + 1)).map qD) ((x_slT (x_quo (b := b) T hr (by decide) (x_var 0)) (ep_some (i := ((i + 1 : Nat) : Int)) ((x_add (x_var 1) x_int).is (by simp))) ep_none).weak fun d e => .inr (by rw [e, cut_from (by omega)])) a_nil)) (by rw [List.append_nil, List.length_append, List.length_map, List.length_map, List.length_take, List.length_drop]; omega)) ?_) a_nil)) (hb.less i)) fun _ e => e
  rw [List.append_nil, ← List.map_append]
  rfl
theorem ok_check_book (T : Fac K mg) : Ok P w K mg base "check_book" 1 ["value"] (Pm K (fun b : Bk => [bD b]) (fun _ => True) (fun _ d => d = .non)) := by
  refine okD (f_check_book T) (g_check_book T) c_check_book (fun _ => rfl) ?_
  intro cdv Ar outer s E J B H b hr _
  exact hb_ifR (PT := fun k => k = false) ((t_notB (t_bl (x_isiBook T (x_var 0)))).weak fun _ e => e) (fun z => by cases z) (fun _ => hb_nil fun σ B' H' s' => ⟨s'.st, rfl⟩)
theorem ok_check_payoff (T : Fac K mg) : Ok P w K mg base "check_payoff" 4 ["value", "outcomes"] (Pm K (fun a : List Int × Nat => [.tup (a.1.map D.int), .int (a.2 : Nat)]) (fun a => PayOk a.2 a.1 ∧ a.2 ≤ 6) (fun _ d => d = .non)) := by
  refine okD (f_check_payoff T) (g_check_payoff T) c_check_payoff (fun _ => rfl) ?_
  rintro cdv Ar outer s E J B H a hr ⟨h, h6⟩
  exact hb_ifR (PT := fun k => k = false) ((t_notB (t_bl (x_fnD (ok_is_payoff T) a hr (a_cons (x_var 0) (a_cons (x_var 1) a_nil)) ⟨h.1, h6, h.2⟩))).weak fun _ e => e) (fun z => by cases z) (fun _ => hb_nil fun σ B' H' s' => ⟨s'.st, rfl⟩)
theorem ok_is_share (T : Fac K mg) : Ok P w K mg base "is_share" 4 ["value"] (Pm K (fun a : Fr => [frD a]) (fun a => FrOk 1000000000 1000000 a ∧ 0 ≤ a.1 ∧ a.1 ≤ a.2) (fun _ d => d = .bl true)) := by
  refine okD (f_is_share T) (g_is_share T) c_is_share (fun _ => rfl) ?_
  rintro cdv Ar outer s E J B H a hr ⟨h, h0, h1⟩
  refine hb_ret (P := fun d => d = .bl true) (x_and (k := true) (x_fnD (ok_is_fraction T) (a, 1000000000, 1000000) hr (a_cons (x_var 0) (a_cons (x_MOST (i_MOST_TOP T)) (a_cons (x_MOST (i_MOST_BOTTOM T)) a_nil))) h) (fun _ => Ev.is (x_chain x_int (x_ixT (x_var 0) x_int rfl) (x_ixT (x_var 0) x_int rfl)) ?_) (fun z => by cases z)) fun _ e => e
  rw [decide_eq_true h0, decide_eq_true h1]
  rfl
theorem sz11 : Sz 1 (1, 1) := ⟨by decide, by decide, by decide⟩
theorem frD_inj {x y : Fr} : frD x = frD y ↔ x = y := by
  obtain ⟨a, b⟩ := x
  obtain ⟨c, d⟩ := y
  simp
theorem ok_check_chance (T : Fac K mg) : Ok P w K mg base "check_chance" 5 ["value", "outcomes"] (Pm K (fun a : List Fr × Nat => [.tup (a.1.map frD), .int (a.2 : Nat)]) (fun a => ChOk a.2 a.1) (fun _ d => d = .non)) := by
  refine okD (f_check_chance T) (g_check_chance T) c_check_chance (fun _ => rfl) ?_
  rintro cdv Ar outer s E J B H ⟨ch, k⟩ hr h
  have hl : ch.length = k := h.len
  have h6 : k ≤ 6 := h.k6
  have szs : ∀ i, Sz 3900 (fsum (ch.take i)) := fun i => by
    have z := fsum_sz (n := 30) (xs := ch.take i) (fun y hy => (h.pt y (List.mem_of_mem_take hy)).1.sz) sz01
    refine sz_mono z ?_
    have : (ch.take i).length ≤ 6 := by rw [List.length_take]; omega
    have := Nat.mul_le_mul_right 31 this
    omega
  refine hb_ifR (PT := fun k => k = false) (t_or (PA := fun k => k = false) ((t_notB (t_bl (x_isTup (b_isinstance T) (b_tuple T) (x_var 0)))).weak fun _ e => e) (fun _ => (t_ne (x_lenT (b_len T) (x_var 0)) (x_var 1)).weak fun _ e => no_len e (by rw [List.length_map]; exact congrArg Int.ofNat hl)) (fun z => by cases z)) (fun z => by cases z) (fun _ => ?_)
  refine hb_set 2 (x_tup (a_cons x_int (a_cons x_int a_nil))) ?_ c_check_chance.nd
  refine hb_forX (α := Unit) (xs := ch.zipIdx) [3, 4] (fun q : Fr × Nat => D.tup [.int (q.2 : Nat), frD q.1]) (fun q Γ => (Γ.set 3 (some (.int (q.2 : Nat)))).set 4 (some (frD q.1))) (fun _ _ => True) (fun i _ => [some (.tup (ch.map frD)), some (.int (k : Nat)), some (frD (fsum (ch.take i))), none, none]) (fun _ _ => []) () ((i_enumT (x_var 0) (b_enumerate T)).is ?_) trivial (fun _ _ _ s => s) (fun q _ => tg_pair 3 4 c_check_chance.nd) (fun _ _ q h => by cases h) (fun i q _ hq _ => ?_) (fun _ _ => ?_) PassesOwn.never
  · rw [List.zipIdx_map, List.map_map]
    rfl
  · have hz : ch[i]? = some q.1 := by
      rw [List.getElem?_zipIdx] at hq
      cases hz : ch[i]? with
      | none => rw [hz] at hq; cases hq
      | some z =>
        rw [hz] at hq
        have : (z, 0 + i) = q := Option.some.inj hq
        subst this
        rfl
    have hm := List.mem_of_getElem? hz
    have e1 : fsum (ch.take (i + 1)) = fplus (fsum (ch.take i)) q.1 := foldl_take fplus _ hz
    refine hb_ifR (PT := fun k => k = false) ((t_notB (t_bl (x_fnD (ok_is_share T) q.1 hr (a_cons (x_var 4) a_nil) (h.pt q.1 hm)))).weak fun _ e => e) (fun z => by cases z) (fun _ => ?_)
    refine hb_set 2 (x_fnD (ok_plus T) (fsum (ch.take i), q.1) hr (a_cons (x_var 2) (a_cons (x_var 4) a_nil)) ⟨szs i, sz_mono (h.pt q.1 hm).1.sz (by decide)⟩) ?_ c_check_chance.nd
    refine hb_ifR (PT := fun k => k = false) ((t_bl (x_fnD (ok_is_less T) ((1, 1), fsum (ch.take (i + 1))) hr (a_cons (x_tup (a_cons x_int (a_cons x_int a_nil))) (a_cons ((x_var 2).is (by rw [e1])) a_nil)) ⟨sz_mono sz11 (by decide), sz_mono (szs (i + 1)) (by decide)⟩)).weak fun _ e => e.trans (h.le (i + 1))) (fun z => by cases z) (fun _ => hb_nil fun σ B' H' s' => ⟨(), trivial, ?_⟩)
    rw [e1]
    exact s'.sub (sub_same (sub_same (sub_same (sub_none (sub_none sub_nil)))))
  · have e : fsum (ch.take ch.zipIdx.length) = (1, 1) := by
      rw [List.length_zipIdx, List.take_length]
      exact h.one
    rw [e]
    exact hb_ifR (PT := fun k => k = false) ((t_neD (r := true) hr (x_var 2) (x_tup (a_cons x_int (a_cons x_int a_nil))) (by simp [pl, pls]) (by simp [pl, pls]) (by simp [dpt, dpts]) (by simp [dpt, dpts]) (by simp)).weak fun _ e => e) (fun z => by cases z) (fun _ => hb_nil fun σ B' H' s' => ⟨s'.st, rfl⟩)
theorem ok_worth_at (T : Fac K mg) : Ok P w K mg base "worth_at" 5 ["payoff", "chance"] (Pm K (fun a : List Int × List Fr => [.tup (a.1.map D.int), .tup (a.2.map frD)]) (fun a => (∀ n ∈ a.1, -1000 ≤ n ∧ n ≤ 1000) ∧ ChSz a.2) (fun a d => d = frD (worth a.1 a.2))) := by
  refine okD (f_worth_at T) (g_worth_at T) c_worth_at (fun _ => rfl) ?_
  rintro cdv Ar outer s E J B H ⟨pay, ch⟩ hr ⟨hp, hc⟩
  have hl : (pay.zip ch).length ≤ 6 := by
    rw [List.length_zip]
    have : ch.length ≤ 6 := hc.1
    omega
  refine hb_ret (x_fn (P := fun d => d = frD (fsum ((pay.zip ch).map term))) (ok_added T) hr (by decide) (a_cons (EvO.lst (o_lc [("number", 2), ("top", 3), ("bottom", 4)] [2, 3, 4] (xs := pay.zip ch) (fun q : Int × Fr => D.tup [.int q.1, frD q.2]) (fun q Γ => ((Γ.set 2 (some (.int q.1))).set 3 (some (.int q.2.1))).set 4 (some (.int q.2.2))) (fun q => frD (term q)) ((i_zipT (x_var 0) (x_var 1) (b_zip T)).is ?_) c_worth_at.nd (blk n_worth_at (defScope s_worth_at)) (by omega) ?_)) a_nil) (fun ds e => ⟨(pay.zip ch).map term, ?_, ⟨by rw [List.length_map]; exact hl, fun x hx => ?_⟩, fun d h => h⟩)) fun d e => by subst e; exact congrArg frD (worth_fold pay ch).symm
  · rw [List.zip_map, List.map_map]
    rfl
  · rintro ⟨n, c⟩ hq Y ⟨_, _, _, _, _, rfl⟩
    have hn := pay_bd (hp _ (List.of_mem_zip hq).1)
    have hcc := hc.2 _ (List.of_mem_zip hq).2
    refine ⟨tg_tup (tgs_cons (tg_name 2 c_worth_at.nd) (tgs_cons (tg_pair 3 4 c_worth_at.nd) tgs_nil)), x_fnD (ok_lowest T) (n * c.1, c.2) hr (a_cons (x_mul (x_var 2) (x_var 3) (wide_mul hn hcc.1 (by decide) (by decide) (by decide))) (a_cons (x_var 4) a_nil)) ⟨bd_mono (bd_mul hn hcc.1) (by decide), hcc.2.1, bd_mono hcc.2.2 (by decide)⟩⟩
  · rw [e, List.map_map]
    rfl
  · obtain ⟨q, hq, rfl⟩ := List.mem_map.mp hx
    exact sz_mono (term_sz (pay_bd (hp _ (List.of_mem_zip hq).1)) (hc.2 _ (List.of_mem_zip hq).2)) (by decide)
theorem ok_turned (T : Fac K mg) : Ok P w K mg base "turned" 1 ["payoff"] (Pm K (fun a : List Int => [.tup (a.map D.int)]) (fun a => a.length ≤ 6) (fun a d => d = .tup ((a.map fun n => -n).map D.int))) := by
  refine okD (f_turned T) (g_turned T) c_turned (fun _ => rfl) ?_
  intro cdv Ar outer s E J B H a hr h6
  refine hb_ret (x_tuple (b_tuple T) (EvO.lst (EvO.is (o_lc [("number", 1)] [1] (xs := a) D.int (fun i Γ => Γ.set 1 (some (.int i))) (fun n => D.int (-n)) (i_tup (x_var 0)) c_turned.nd (blk n_turned (defScope s_turned)) (by omega) ?_) (by rw [List.map_map]; rfl)))) fun _ e => e
  rintro n hn Y ⟨_, _, _, _, _, rfl⟩
  exact ⟨tg_name 1 c_turned.nd, x_neg (x_var 1)⟩
theorem ok_gain_rows (T : Fac K mg) : Ok P w K mg base "gain_rows" 3 ["book"] (Pm K (fun b : Bk => [bD b]) BkOk (fun b d => d = .lst ((List.range b.1).map fun x => D.lst ((gains b.2 x).map D.int)))) := by
  refine okD (f_gain_rows T) (g_gain_rows T) c_gain_rows (fun _ => rfl) ?_
  rintro cdv Ar outer s E J B H b hr hb
  have h6 := hb.hi
  have h8 := hb.few
  refine hb_own (O' := []) 1 (o_lst a_nil) ?_ (fun _ h => by cases h) (by show 1 < 5; decide) c_gain_rows.nd
  intro ds0 e0
  subst e0
  refine hb_forN (α := Unit) 2 (n := (b.1 : Nat)) (fun _ _ => True) (fun _ _ => [some (bD b), none, none, none, none]) (fun i _ => [(1, (List.range i).map fun x => D.lst ((gains b.2 x).map D.int))]) () (x_out T hr (by decide) (x_var 0)) (by omega) (b_range T)
    trivial (fun _ _ _ s => s) (fun _ _ q hq => by simp at hq; subst hq; simp) (fun i _ hlt _ => ?_) (fun _ _ => ?_) PassesOwn.never c_gain_rows.nd
  · have hi : i < b.1 := by omega
    refine hb_app 1 (P := (· = D.lst ((gains b.2 i).map D.int))) (EvO.lst (EvO.is (o_lc [("payoff", 3), ("price", 4)] [3, 4] (xs := b.2) qD (fun q Γ => (Γ.set 3 (some (.tup (q.1.map D.int)))).set 4 (some (frD q.2))) (fun q => D.int (gain q i)) (i_tup (x_quo T hr (by decide) (x_var 0))) c_gain_rows.nd (blk n_gain_rows (defScope s_gain_rows)) (by omega) ?_) (by unfold gains; rw [List.map_map]; rfl))) (fun d e => hb_nil fun σ B' H' s' => ⟨(), trivial, ?_⟩) (by rw [List.length_map, List.length_range]; omega)
    · rintro q hq Y ⟨_, _, _, _, _, rfl⟩
      have hQ := hb.qs q hq
      have hl := hQ.len
      have hx : q.1[i]? = some (q.1.getD i 0) := by rw [List.getD_eq_getElem?_getD, List.getElem?_eq_getElem (by omega)]; rfl
      refine ⟨tg_pair 3 4 c_gain_rows.nd, x_sub (x_mul (x_ixT (i := (i : Nat)) (x_var 3) (x_var 2) (d := .int (q.1.getD i 0)) (by rw [atI_nat, List.getElem?_map, hx]; rfl)) (x_ixT (x_var 4) x_int rfl) ?_) (x_ixT (x_var 4) x_int rfl)⟩
      have h1 := hQ.pay _ (List.mem_of_getElem? hx)
      exact wide_mul (pay_bd h1) hQ.pr.sz2.2.2 (by decide) (by decide) (by decide)
    · subst e
      rw [List.range_succ, List.map_append]
      exact s'.sub (sub_same (sub_none (sub_none (sub_none (sub_none sub_nil)))))
  · exact hb_frz (hb_ret (x_var 1) fun d e => by rw [e, Int.toNat_natCast])
end
end Z
end
section
set_option Elab.async false
set_option linter.all false
set_option maxRecDepth 100000
set_option maxHeartbeats 400000
namespace Z
open PySem PySem.Spec PyProof.Rows L2 RZ
/-! ### a book's question as a problem: plain -/
def g3 (k : Nat) (qs : List Qt) (j : Nat) : LP.V3 := match qs[j]? with
  | some q => (gain q 0, gain q 1, if k = 2 then 0 else gain q 2)
  | none => (0, 0, 0)
def p3 (k : Nat) (pay : List Int) (lo : Int) : LP.V3 := (pay.getD 0 0 - lo, pay.getD 1 0 - lo, if k = 2 then 0 else pay.getD 2 0 - lo)
def prob (k : Nat) (qs : List Qt) (u : LP.V3) : LP.Prob := ⟨k, 1 + qs.length + k, fun j => if j = 0 then LP.onev k else if j < 1 + qs.length then g3 k qs (j - 1) else if j < 1 + qs.length + k then LP.e3 (j - (1 + qs.length)) else if j = 1 + qs.length + k then u else if j = 1 + qs.length + k + 1 ∧ k = 2 then LP.e3 2 else (0, 0, 0), fun j => if j = 0 then -1 else 0⟩
def quOf (b : Bk) (pay : List Int) (lo : Int) : Qu := ⟨prob b.1 b.2 (p3 b.1 pay lo), b.2.length, g3 b.1 b.2, p3 b.1 pay lo⟩
theorem prob_col (k : Nat) (qs : List Qt) (u : LP.V3) (j : Nat) : (prob k qs u).col j = if j = 0 then LP.onev k else if j < 1 + qs.length then g3 k qs (j - 1) else if j < 1 + qs.length + k then LP.e3 (j - (1 + qs.length)) else if j = 1 + qs.length + k then u else if j = 1 + qs.length + k + 1 ∧ k = 2 then LP.e3 2 else (0, 0, 0) := rfl
def comp (x : Nat) (v : LP.V3) : Int := match x with
  | 0 => v.1
  | 1 => v.2.1
  | _ => v.2.2
def K3 (b : Bk) : Prop := BkOk b ∧ (b.1 = 2 ∨ b.1 = 3)
theorem gain_bd {k : Nat} {q : Qt} (h : QtOk k q) (x : Nat) : (gain q x).natAbs < 2 ^ 21 := by
  obtain ⟨h1, h2, h3, h4, _⟩ := h.pr
  unfold gain
  have hx : -1000 ≤ q.1.getD x 0 ∧ q.1.getD x 0 ≤ 1000 := by
    rw [List.getD_eq_getElem?_getD]
    cases e : q.1[x]? with
    | none => decide
    | some n => exact h.pay n (List.mem_of_getElem? e)
  generalize q.1.getD x 0 = y at *
  have e : (2 : Nat) ^ 21 = 2097152 := by decide
  have m1 : y * q.2.2 ≤ 1000 * 1000 := Int.le_trans (Int.mul_le_mul_of_nonneg_right hx.2 (by omega)) (Int.mul_le_mul_of_nonneg_left h4 (by decide))
  have m2 : -(1000 * 1000) ≤ y * q.2.2 := by
    have a1 : -1000 * q.2.2 ≤ y * q.2.2 := Int.mul_le_mul_of_nonneg_right hx.1 (by omega)
    have a2 : -1000 * 1000 ≤ -1000 * q.2.2 := by omega
    omega
  generalize y * q.2.2 = z at *
  rw [e]
  omega
theorem g3_bd {b : Bk} (h : BkOk b) (j : Nat) : (g3 b.1 b.2 j).1.natAbs < 2 ^ 21 ∧ (g3 b.1 b.2 j).2.1.natAbs < 2 ^ 21 ∧ (g3 b.1 b.2 j).2.2.natAbs < 2 ^ 21 := by
  unfold g3
  cases e : b.2[j]? with
  | none => exact (show (0 : Int).natAbs < 2 ^ 21 ∧ (0 : Int).natAbs < 2 ^ 21 ∧ (0 : Int).natAbs < 2 ^ 21 by decide)
  | some q =>
    have hq := h.qs q (List.mem_of_getElem? e)
    refine ⟨gain_bd hq 0, gain_bd hq 1, ?_⟩
    show (if b.1 = 2 then 0 else gain q 2 : Int).natAbs < 2 ^ 21
    split
    · decide
    · exact gain_bd hq 2
theorem getD_pay {k : Nat} {pay : List Int} (h : PayOk k pay) (x : Nat) : -1000 ≤ pay.getD x 0 ∧ pay.getD x 0 ≤ 1000 := by
  rw [List.getD_eq_getElem?_getD]
  cases e : pay[x]? with
  | none => decide
  | some n => exact h.2 n (List.mem_of_getElem? e)
theorem quOk {b : Bk} {pay : List Int} {lo : Int} (h : K3 b) (hp : PayOk b.1 pay) (hm : lo ∈ pay) (hl : ∀ y ∈ pay, lo ≤ y) : QuOk (quOf b pay lo) := by
  obtain ⟨hb, hk⟩ := h
  have h8 := hb.few
  have hlo := hp.2 lo hm
  have nn : ∀ x, x < b.1 → 0 ≤ pay.getD x 0 - lo := fun x hx => by
    have e : pay[x]? = some (pay.getD x 0) := by rw [List.getD_eq_getElem?_getD, List.getElem?_eq_getElem (by rw [hp.1]; exact hx)]; rfl
    have := hl _ (List.mem_of_getElem? e)
    omega
  have ub : ∀ x, (pay.getD x 0 - lo).natAbs < 2 ^ 21 := fun x => by
    have := getD_pay hp x
    have e : (2 : Nat) ^ 21 = 2097152 := by decide
    rw [e]; omega
  have u2 : (if b.1 = 2 then 0 else pay.getD 2 0 - lo : Int).natAbs < 2 ^ 21 := by
    split
    · decide
    · exact ub 2
  refine ⟨⟨⟨hk, rfl, rfl, fun j hj => ?_, fun x hx => ?_, ?_, fun h2 => ?_, fun j => rfl, fun h2 j hj => ?_, fun h2 => ?_⟩, ⟨?_, ?_, fun j => ?_, fun j => ?_⟩⟩, nn 0 (by omega), nn 1 (by omega), ?_⟩
  · have hj : j < b.2.length := hj
    show (prob b.1 b.2 (p3 b.1 pay lo)).col (1 + j) = g3 b.1 b.2 j
    rw [prob_col, if_neg (by omega), if_pos (by omega), Nat.add_sub_cancel_left]
  · have hx : x < b.1 := hx
    show (prob b.1 b.2 (p3 b.1 pay lo)).col (1 + b.2.length + x) = LP.e3 x
    rw [prob_col, if_neg (by omega), if_neg (by omega), if_pos (by omega), Nat.add_sub_cancel_left]
  · show (prob b.1 b.2 (p3 b.1 pay lo)).col (1 + b.2.length + b.1) = p3 b.1 pay lo
    rw [prob_col, if_neg (by omega), if_neg (by omega), if_neg (by omega), if_pos rfl]
  · have h2 : b.1 = 2 := h2
    show (prob b.1 b.2 (p3 b.1 pay lo)).col (1 + b.2.length + b.1 + 1) = LP.e3 2
    rw [prob_col, if_neg (by omega), if_neg (by omega), if_neg (by omega), if_neg (by omega), if_pos ⟨rfl, h2⟩]
  · have h2 : b.1 = 2 := h2
    show (g3 b.1 b.2 j).2.2 = 0
    unfold g3
    cases b.2[j]? with
    | none => rfl
    | some q =>
      show (if b.1 = 2 then 0 else gain q 2) = 0
      rw [if_pos h2]
  · have h2 : b.1 = 2 := h2
    show (if b.1 = 2 then 0 else pay.getD 2 0 - lo) = 0
    rw [if_pos h2]
  · show 1 + b.2.length + b.1 ≤ 1000
    omega
  · show b.1 ≤ 3
    omega
  · show (LP.Prob.col (prob b.1 b.2 (p3 b.1 pay lo)) j).1.natAbs < 2 ^ 21 ∧ (LP.Prob.col (prob b.1 b.2 (p3 b.1 pay lo)) j).2.1.natAbs < 2 ^ 21 ∧ (LP.Prob.col (prob b.1 b.2 (p3 b.1 pay lo)) j).2.2.natAbs < 2 ^ 21
    unfold prob
    dsimp only
    have he : ∀ y, (LP.e3 y).1.natAbs < 2 ^ 21 ∧ (LP.e3 y).2.1.natAbs < 2 ^ 21 ∧ (LP.e3 y).2.2.natAbs < 2 ^ 21 := fun y => by
      unfold LP.e3
      split <;> decide
    split
    · unfold LP.onev
      split <;> decide
    · split
      · exact g3_bd hb _
      · split
        · exact he _
        · split
          · exact ⟨ub 0, ub 1, u2⟩
          · split
            · exact he 2
            · decide
  · show (if j = 0 then (-1 : Int) else 0).natAbs < 2 ^ 2
    split <;> decide
  · show 0 ≤ (if b.1 = 2 then 0 else pay.getD 2 0 - lo : Int)
    split
    · exact Int.le_refl _
    · exact nn 2 (by omega)
theorem comp_cell {a : Qu} (h : QuOk a) {x j : Nat} (hx : x < a.p.m) : cell a.p (LP.st0 a.p a.q) x j = comp x (a.p.col j) := by
  have hm := h.1.b.m
  obtain ⟨t0, t1, t2, _, _⟩ := LP.st0_tt h.1.s j
  unfold cell
  rw [if_pos hx]
  have : x = 0 ∨ x = 1 ∨ x = 2 := by omega
  rcases this with rfl | rfl | rfl
  · exact t0
  · exact t1
  · exact t2
theorem comp_one {k x : Nat} (hk : k = 2 ∨ k = 3) (hx : x < k) : comp x (LP.onev k) = 1 := by
  rcases hk with rfl | rfl
  · have : x = 0 ∨ x = 1 := by omega
    rcases this with rfl | rfl <;> rfl
  · have : x = 0 ∨ x = 1 ∨ x = 2 := by omega
    rcases this with rfl | rfl | rfl <;> rfl
theorem rows_eq {b : Bk} {pay : List Int} {lo : Int} (h : K3 b) (hp : PayOk b.1 pay) (hm : lo ∈ pay) (hl : ∀ y ∈ pay, lo ≤ y) : rowsOf (quOf b pay lo).p (quOf b pay lo).q = (List.range b.1).map fun x => 1 :: gains b.2 x := by
  have ok := quOk h hp hm hl
  unfold rowsOf
  refine List.map_congr_left fun x hx => ?_
  have hx : x < b.1 := List.mem_range.mp hx
  apply List.ext_getElem?
  intro j
  show ((List.range (1 + b.2.length)).map (cell (quOf b pay lo).p (LP.st0 (quOf b pay lo).p b.2.length) x))[j]? = _
  by_cases hj : j < 1 + b.2.length
  · rw [List.getElem?_map, List.getElem?_range hj]
    show some (cell (quOf b pay lo).p (LP.st0 (quOf b pay lo).p (quOf b pay lo).q) x j) = _
    rw [comp_cell ok hx]
    cases j with
    | zero =>
      rw [ok.1.s.one]
      show some (comp x (LP.onev b.1)) = some 1
      rw [comp_one h.2 hx]
    | succ j =>
      have hj2 : j < b.2.length := by omega
      rw [show j + 1 = 1 + j by omega, ok.1.s.gain j hj2, List.getElem?_cons, if_neg (by omega)]
      show some (comp x (g3 b.1 b.2 j)) = (gains b.2 x)[1 + j - 1]?
      unfold gains g3
      rw [Nat.add_sub_cancel_left, List.getElem?_map, List.getElem?_eq_getElem hj2]
      have h3 := h.2
      have : x = 0 ∨ x = 1 ∨ (x = 2 ∧ b.1 ≠ 2) := by omega
      rcases this with rfl | rfl | ⟨rfl, h2⟩
      · rfl
      · rfl
      · show some (if b.1 = 2 then 0 else gain b.2[j] 2) = some (gain b.2[j] 2)
        rw [if_neg h2]
  · rw [List.getElem?_eq_none (by simpa using Nat.le_of_not_lt hj), List.getElem?_eq_none (by simp [gains]; omega)]
theorem bnd_eq {b : Bk} {pay : List Int} {lo : Int} (h : K3 b) (hp : PayOk b.1 pay) (hm : lo ∈ pay) (hl : ∀ y ∈ pay, lo ≤ y) : bndOf (quOf b pay lo).p (quOf b pay lo).q = pay.map fun n => n - lo := by
  have ok := quOk h hp hm hl
  unfold bndOf
  apply List.ext_getElem?
  intro x
  show ((List.range b.1).map _)[x]? = _
  by_cases hx : x < b.1
  · rw [List.getElem?_map, List.getElem?_range hx]
    show some (cell (quOf b pay lo).p (LP.st0 (quOf b pay lo).p (quOf b pay lo).q) x (quOf b pay lo).p.n) = _
    rw [comp_cell ok hx, ok.1.s.bnd, List.getElem?_map]
    have e : pay[x]? = some (pay.getD x 0) := by rw [List.getD_eq_getElem?_getD, List.getElem?_eq_getElem (by rw [hp.1]; exact hx)]; rfl
    rw [e]
    have h3 := h.2
    have : x = 0 ∨ x = 1 ∨ (x = 2 ∧ b.1 ≠ 2) := by omega
    rcases this with rfl | rfl | ⟨rfl, h2⟩
    · rfl
    · rfl
    · show some (if b.1 = 2 then 0 else pay.getD 2 0 - lo) = some (pay.getD 2 0 - lo)
      rw [if_neg h2]
  · rw [List.getElem?_eq_none (by simpa using Nat.le_of_not_lt hx), List.getElem?_eq_none (by simp [hp.1]; omega)]
theorem wor_eq (b : Bk) (pay : List Int) (lo : Int) : worOf (quOf b pay lo).p (quOf b pay lo).q = 1 :: List.replicate b.2.length 0 := by
  show (List.range (1 + b.2.length)).map (fun j => -(if j = 0 then (-1 : Int) else 0)) = _
  rw [Nat.add_comm, List.range_succ_eq_map, List.map_cons, List.map_map]
  refine congrArg (_ :: ·) (List.eq_replicate_iff.mpr ⟨by simp, fun x hx => ?_⟩)
  obtain ⟨j, _, rfl⟩ := List.mem_map.mp hx
  rfl
/-! ### what a question tells -/
theorem EvA.is {X : Cx} {J : Jx} {Γ : Gam} {es : List Expr} {ds ds' : List D} (h : EvA X J Γ es (· = ds)) (k : ds = ds') : EvA X J Γ es (· = ds') := k ▸ h
section
variable {P : Program} {w : World} {K : PySem.W.Frag} {mg : Str → Option Value} {base : Heap}
def LeastAns (b : Bk) (pay : List Int) (d : D) : Prop := ∃ lo, lo ∈ pay ∧ (∀ y ∈ pay, lo ≤ y) ∧ Ans (quOf b pay lo) d
theorem ok_least_answer (T : Fac K mg) : Ok P w K mg base "least_answer" 6 ["book", "payoff"] (Pm K (fun a : Bk × List Int => [bD a.1, .tup (a.2.map D.int)]) (fun a => K3 a.1 ∧ PayOk a.1.1 a.2) (fun a d => LeastAns a.1 a.2 d)) := by
  refine okD (f_least_answer T) (g_least_answer T) c_least_answer (fun _ => rfl) ?_
  rintro cdv Ar outer s E J B H ⟨b, pay⟩ hr ⟨h3, hp⟩
  have hb : BkOk b := h3.1
  have h8 : b.2.length ≤ 8 := hb.few
  have h6 : b.1 ≤ 6 := hb.hi
  have h2 : 2 ≤ b.1 := hb.lo
  have hl : pay.length = b.1 := hp.1
  refine hb_asg 2 (P := fun d => ∃ lo, d = .int lo ∧ lo ∈ pay ∧ ∀ y ∈ pay, lo ≤ y) (O' := []) (x_minT hr (b_min T) (x_var 1) (by omega) (fun m h1 h2 => ⟨m, rfl, h1, h2⟩)) ?_ (fun _ h => by cases h) c_least_answer.nd
  rintro _ ⟨lo, rfl, hm, hlo⟩
  have hlo' := hp.2 lo hm
  refine hb_lcf 3 [("gains", 4)] [4] (xs := List.range b.1) (fun x => D.lst ((gains b.2 x).map D.int)) (fun x Γ => Γ.set 4 (some (.lst ((gains b.2 x).map D.int)))) (fun x => D.lst ((1 :: gains b.2 x).map D.int)) (i_list (x_fnD (ok_gain_rows T) b hr (a_cons (x_var 0) a_nil) hb)) c_least_answer.nd (blk n_least_answer (defScope s_least_answer)) (by rw [List.length_range]; omega) ?_ (O' := []) ?_ (fun _ h => by cases h) (by show 3 < 6; decide)
  · rintro x hx Y ⟨_, _, _, _, _, rfl⟩
    exact ⟨tg_name 4 c_least_answer.nd, EvO.lst (EvO.is (o_lst (ds := .int 1 :: (gains b.2 x).map D.int) (a_cons x_int (EvA.is (a_star (xs := (gains b.2 x).map D.int) ((x_var 4).weak fun d e => .inl e) a_nil) (List.append_nil _))) (by simp [gains]; omega)) rfl)⟩
  refine hb_frz ?_
  refine hb_ret (P := LeastAns b pay) (x_fn (ok_greatest_sum T) hr (by decide) (a_cons (x_var 3) (a_cons (EvO.lst (EvO.is (o_lc [("number", 5)] [5] (xs := pay) D.int (fun n Γ => Γ.set 5 (some (.int n))) (fun n => D.int (n - lo)) (i_tup (x_var 1)) c_least_answer.nd (blk n_least_answer (defScope s_least_answer)) (by omega) ?_) (ds' := (pay.map fun n => n - lo).map D.int) (by rw [List.map_map]; rfl))) (a_cons (EvO.lst (EvO.is (o_cat (EvO.lst (o_lst (a_cons x_int a_nil))) (EvO.lst (o_rep (xs := [.int 0]) (k := (b.2.length : Nat)) (EvO.lst (o_lst (a_cons x_int a_nil))) ((x_lenT (b_len T) (x_quo T hr (by decide) (x_var 0))).is (by rw [List.length_map])) (by omega) (by decide))) ?_) (ds' := (1 :: List.replicate b.2.length (0 : Int)).map D.int) ?_)) a_nil))) (fun ds e => ⟨quOf b pay lo, ?_, quOk h3 hp hm hlo, fun d hd => ⟨lo, hm, hlo, hd⟩⟩)) (fun d h => h)
  · rintro n hn Y ⟨_, _, _, _, _, rfl⟩
    exact ⟨tg_name 5 c_least_answer.nd, x_sub (x_var 5) (x_var 2)⟩
  · rw [list_rep, Int.toNat_natCast, List.length_replicate]
    simp only [List.length_cons, List.length_nil]
    omega
  · rw [list_rep, Int.toNat_natCast, List.map_cons, List.map_replicate]
    rfl
  · unfold rowsD bndD worD
    rw [e, rows_eq (b := b) (pay := pay) h3 hp hm hlo, bnd_eq (b := b) (pay := pay) h3 hp hm hlo, wor_eq]
    simp only [List.map_map]
    rfl
end
end Z
end
section
set_option Elab.async false
set_option linter.all false
set_option maxRecDepth 100000
set_option maxHeartbeats 400000
namespace Z
open PySem PySem.Spec PyProof.Rows L2 RZ
/-! ### what an answer tells of a book: plain -/
def FeasB (b : Bk) (x : LP.V3) : Prop := LP.Feas b.1 b.2.length (g3 b.1 b.2) x
noncomputable def kept (b : Bk) : Bool := @decide (∃ x, FeasB b x) (Classical.propDecidable _)
theorem kept_iff {b : Bk} : kept b = true ↔ ∃ x, FeasB b x := by
  unfold kept
  exact @decide_eq_true_iff _ (Classical.propDecidable _)
/-- a row: an outcome's own, a quote's -/
def Rw (b : Bk) (v : LP.V3) : Prop := (∃ x, x < b.1 ∧ v = LP.e3 x) ∨ ∃ j, j < b.2.length ∧ v = g3 b.1 b.2 j
def CorV (b : Bk) (x : LP.V3) : Prop := ∃ c d, Rw b c ∧ (b.1 = 2 → d = LP.e3 2) ∧ (b.1 = 3 → Rw b d) ∧ (x = LP.cross c d ∨ x = LP.ngv (LP.cross c d))
abbrev pv (k : Nat) (pay : List Int) : LP.V3 := p3 k pay 0
structure IsLeast (b : Bk) (pay : List Int) (f : Fr) : Prop where
  pos : 0 < f.2
  cop : Int.gcd f.1 f.2 = 1
  at_ : ∃ x, FeasB b x ∧ CorV b x ∧ LP.dot (pv b.1 pay) x * f.2 = f.1 * LP.tot x
  le : ∀ x, FeasB b x → f.1 * LP.tot x ≤ LP.dot (pv b.1 pay) x * f.2
theorem IsLeast.uniq {b : Bk} {pay : List Int} {f g : Fr} (h : IsLeast b pay f) (k : IsLeast b pay g) : f = g := by
  have le : ∀ {f g : Fr}, IsLeast b pay f → IsLeast b pay g → f.1 * g.2 ≤ g.1 * f.2 := fun {f g} h k => by
    obtain ⟨x, hx, _, e⟩ := k.at_
    have l := h.le x hx
    have t := hx.pos
    have l2 : f.1 * LP.tot x * g.2 ≤ LP.dot (pv b.1 pay) x * f.2 * g.2 := Int.mul_le_mul_of_nonneg_right l (Int.le_of_lt k.pos)
    have e2 : LP.dot (pv b.1 pay) x * f.2 * g.2 = g.1 * LP.tot x * f.2 := by rw [← e]; grind
    rw [e2] at l2
    have l3 : (f.1 * g.2) * LP.tot x ≤ (g.1 * f.2) * LP.tot x := by grind
    exact Int.le_of_mul_le_mul_right l3 t
  exact frac_ext h.pos k.pos h.cop k.cop (Int.le_antisymm (le h k) (le k h))
theorem dot_p3 {b : Bk} {pay : List Int} {lo : Int} {x : LP.V3} (h : FeasB b x) : LP.dot (p3 b.1 pay lo) x = LP.dot (pv b.1 pay) x - lo * LP.tot x := by
  have z := h.z
  unfold LP.dot pv p3 LP.tot
  dsimp only
  by_cases h2 : b.1 = 2
  · rw [if_pos h2, if_pos h2, z h2]
    grind
  · rw [if_neg h2, if_neg h2]
    grind
theorem col_rw {b : Bk} {pay : List Int} {lo : Int} (ok : QuOk (quOf b pay lo)) {j : Nat} (h0 : j ≠ 0) (hj : j < (quOf b pay lo).p.n) : Rw b ((quOf b pay lo).p.col j) := by
  have hn : (quOf b pay lo).p.n = 1 + b.2.length + b.1 := rfl
  by_cases h1 : j < 1 + b.2.length
  · refine .inr ⟨j - 1, by omega, ?_⟩
    have := ok.1.s.gain (j - 1) (show j - 1 < b.2.length by omega)
    rw [show 1 + (j - 1) = j by omega] at this
    exact this
  · refine .inl ⟨j - (1 + b.2.length), by omega, ?_⟩
    have := ok.1.s.own (j - (1 + b.2.length)) (show j - (1 + b.2.length) < b.1 by omega)
    rw [show 1 + (quOf b pay lo).q + (j - (1 + b.2.length)) = j by show 1 + b.2.length + (j - (1 + b.2.length)) = j; omega] at this
    exact this
theorem det0 (c d : LP.V3) : LP.det3 (LP.e3 0) c d = (LP.cross c d).1 ∧ LP.det3 (LP.e3 1) c d = (LP.cross c d).2.1 ∧ LP.det3 (LP.e3 2) c d = (LP.cross c d).2.2 := by
  simp only [LP.det3, LP.cross, LP.e3]
  refine ⟨?_, ?_, ?_⟩ <;> grind
theorem det1 (c d : LP.V3) : LP.det3 c (LP.e3 0) d = -(LP.cross c d).1 ∧ LP.det3 c (LP.e3 1) d = -(LP.cross c d).2.1 ∧ LP.det3 c (LP.e3 2) d = -(LP.cross c d).2.2 := by
  simp only [LP.det3, LP.cross, LP.e3]
  refine ⟨?_, ?_, ?_⟩ <;> grind
theorem det2 (c d : LP.V3) : LP.det3 c d (LP.e3 0) = (LP.cross c d).1 ∧ LP.det3 c d (LP.e3 1) = (LP.cross c d).2.1 ∧ LP.det3 c d (LP.e3 2) = (LP.cross c d).2.2 := by
  simp only [LP.det3, LP.cross, LP.e3]
  refine ⟨?_, ?_, ?_⟩ <;> grind
theorem cr2 (c : LP.V3) : (LP.cross c (LP.e3 2)).2.2 = 0 := by
  simp only [LP.cross, LP.e3]
  grind
theorem yv_cor {b : Bk} {pay : List Int} {lo : Int} (hk : b.1 = 2 ∨ b.1 = 3) (ok : QuOk (quOf b pay lo)) {s : LP.St} (I : LP.Inv (quOf b pay lo).p s) {i : Nat} (hi : i < (quOf b pay lo).p.m) (h0 : LP.bi s i = 0) : CorV b (LP.yv (quOf b pay lo).p (quOf b pay lo).q s) := by
  have hS := ok.1.s
  have hm : (quOf b pay lo).p.m = b.1 := rfl
  have hq : (quOf b pay lo).q = b.2.length := rfl
  have hn : (quOf b pay lo).p.n = 1 + b.2.length + b.1 := rfl
  have hc : ∀ j, (quOf b pay lo).p.c0 j = if j = 0 then -1 else 0 := fun j => rfl
  have ne : ∀ i', i' < 3 → i' ≠ i → LP.bi s i' ≠ 0 := fun i' h3 hne e => hne (I.inj h3 (by omega) (e.trans h0.symm))
  have o0 : (quOf b pay lo).p.col (1 + (quOf b pay lo).q) = LP.e3 0 := hS.own 0 (by omega)
  have o1 : (quOf b pay lo).p.col (1 + (quOf b pay lo).q + 1) = LP.e3 1 := hS.own 1 (by omega)
  have o2 : b.1 = 3 → (quOf b pay lo).p.col (1 + (quOf b pay lo).q + 2) = LP.e3 2 := fun h => hS.own 2 (by omega)
  have third : b.1 = 2 → (quOf b pay lo).p.col s.2.2 = LP.e3 2 := fun h2 => by
    rw [I.art h2]
    exact hS.art h2
  have c2 : LP.bi s 2 ≠ 0 → (b.1 = 2 → (quOf b pay lo).p.col s.2.2 = LP.e3 2) ∧ (b.1 = 3 → Rw b ((quOf b pay lo).p.col s.2.2)) := fun h2 => ⟨third, fun h3 => col_rw ok h2 (I.lt 2 (by omega))⟩
  -- the last row's own numbers
  have obt : ∀ j, j ≠ 0 → LP.ob (quOf b pay lo).p s j = LP.tt (quOf b pay lo).p s i j := fun j hj => by
    unfold LP.ob
    rw [hc j, if_neg hj]
    have z0 : (quOf b pay lo).p.c0 s.1 = if i = 0 then -1 else 0 := by
      rw [hc]
      by_cases e : i = 0
      · subst e; rw [if_pos (show s.1 = 0 from h0), if_pos rfl]
      · rw [if_neg e, if_neg (show s.1 ≠ 0 from ne 0 (by omega) (Ne.symm e))]
    have z1 : (quOf b pay lo).p.c0 s.2.1 = if i = 1 then -1 else 0 := by
      rw [hc]
      by_cases e : i = 1
      · subst e; rw [if_pos (show s.2.1 = 0 from h0), if_pos rfl]
      · rw [if_neg e, if_neg (show s.2.1 ≠ 0 from ne 1 (by omega) (Ne.symm e))]
    have z2 : (quOf b pay lo).p.c0 s.2.2 = if i = 2 then -1 else 0 := by
      rw [hc]
      by_cases e : i = 2
      · subst e; rw [if_pos (show s.2.2 = 0 from h0), if_pos rfl]
      · rw [if_neg e, if_neg (show s.2.2 ≠ 0 from ne 2 (by omega) (Ne.symm e))]
    rw [z0, z1, z2]
    have : i = 0 ∨ i = 1 ∨ i = 2 := by omega
    rcases this with rfl | rfl | rfl
    · rw [if_pos rfl, if_neg (by decide), if_neg (by decide)]; omega
    · rw [if_neg (by decide), if_pos rfl, if_neg (by decide)]; omega
    · rw [if_neg (by decide), if_neg (by decide), if_pos rfl]; omega
  have y : LP.yv (quOf b pay lo).p (quOf b pay lo).q s = (LP.tt (quOf b pay lo).p s i (1 + (quOf b pay lo).q), LP.tt (quOf b pay lo).p s i (1 + (quOf b pay lo).q + 1), if b.1 = 2 then 0 else LP.tt (quOf b pay lo).p s i (1 + (quOf b pay lo).q + 2)) := by
    unfold LP.yv
    rw [obt _ (by omega), obt _ (by omega), obt _ (by omega)]
    rfl
  rw [y]
  have hi3 : i = 0 ∨ i = 1 ∨ i = 2 := by omega
  rcases hi3 with rfl | rfl | rfl
  · refine ⟨_, _, col_rw ok (ne 1 (by omega) (by omega)) (I.lt 1 (by omega)), (c2 (ne 2 (by omega) (by omega))).1, (c2 (ne 2 (by omega) (by omega))).2, .inl ?_⟩
    show (LP.det3 ((quOf b pay lo).p.col (1 + (quOf b pay lo).q)) ((quOf b pay lo).p.col s.2.1) ((quOf b pay lo).p.col s.2.2), LP.det3 ((quOf b pay lo).p.col (1 + (quOf b pay lo).q + 1)) ((quOf b pay lo).p.col s.2.1) ((quOf b pay lo).p.col s.2.2), if b.1 = 2 then 0 else LP.det3 ((quOf b pay lo).p.col (1 + (quOf b pay lo).q + 2)) ((quOf b pay lo).p.col s.2.1) ((quOf b pay lo).p.col s.2.2)) = _
    rw [o0, o1]
    rw [(det0 _ _).1, (det0 _ _).2.1]
    rcases hk with h2 | h3
    · have z := cr2 ((quOf b pay lo).p.col s.2.1)
      rw [if_pos h2, third h2]
      exact Prod.ext rfl (Prod.ext rfl z.symm)
    · rw [if_neg (by omega), o2 h3, (det0 _ _).2.2]
      rfl
  · refine ⟨_, _, col_rw ok (ne 0 (by omega) (by omega)) (I.lt 0 (by omega)), (c2 (ne 2 (by omega) (by omega))).1, (c2 (ne 2 (by omega) (by omega))).2, .inr ?_⟩
    show (LP.det3 ((quOf b pay lo).p.col s.1) ((quOf b pay lo).p.col (1 + (quOf b pay lo).q)) ((quOf b pay lo).p.col s.2.2), LP.det3 ((quOf b pay lo).p.col s.1) ((quOf b pay lo).p.col (1 + (quOf b pay lo).q + 1)) ((quOf b pay lo).p.col s.2.2), if b.1 = 2 then 0 else LP.det3 ((quOf b pay lo).p.col s.1) ((quOf b pay lo).p.col (1 + (quOf b pay lo).q + 2)) ((quOf b pay lo).p.col s.2.2)) = LP.ngv (LP.cross ((quOf b pay lo).p.col s.1) ((quOf b pay lo).p.col s.2.2))
    rw [o0, o1]
    rw [(det1 _ _).1, (det1 _ _).2.1]
    rcases hk with h2 | h3
    · have z := cr2 ((quOf b pay lo).p.col s.1)
      rw [if_pos h2, third h2]
      unfold LP.ngv
      rw [z]
      rfl
    · rw [if_neg (by omega), o2 h3, (det1 _ _).2.2]
      rfl
  · have h3 : b.1 = 3 := by omega
    refine ⟨_, _, col_rw ok (ne 0 (by omega) (by omega)) (I.lt 0 (by omega)), fun h2 => by omega, fun _ => col_rw ok (ne 1 (by omega) (by omega)) (I.lt 1 (by omega)), .inl ?_⟩
    show (LP.det3 ((quOf b pay lo).p.col s.1) ((quOf b pay lo).p.col s.2.1) ((quOf b pay lo).p.col (1 + (quOf b pay lo).q)), LP.det3 ((quOf b pay lo).p.col s.1) ((quOf b pay lo).p.col s.2.1) ((quOf b pay lo).p.col (1 + (quOf b pay lo).q + 1)), if b.1 = 2 then 0 else LP.det3 ((quOf b pay lo).p.col s.1) ((quOf b pay lo).p.col s.2.1) ((quOf b pay lo).p.col (1 + (quOf b pay lo).q + 2))) = LP.cross ((quOf b pay lo).p.col s.1) ((quOf b pay lo).p.col s.2.1)
    rw [o0, o1, if_neg (by omega), o2 h3, (det2 _ _).1, (det2 _ _).2.1, (det2 _ _).2.2]
/-- an answer, told by the book -/
theorem ans_tells {b : Bk} {pay : List Int} {lo : Int} {d : D} (h3 : K3 b) (hp : PayOk b.1 pay) (hm : lo ∈ pay) (hl : ∀ y ∈ pay, lo ≤ y) (h : Ans (quOf b pay lo) d) :
    (kept b = true ∧ ∃ v : Fr, d = .ans (frD v) ∧ Sz 80 v ∧ IsLeast b pay (fplus (lo, 1) v)) ∨ (kept b = false ∧ d = .ans .non) := by
  have ok := quOk h3 hp hm hl
  rcases h with ⟨s, I, he, rfl⟩ | ⟨s, e, I, he, hlv, rfl⟩
  · obtain ⟨F, t, du, i, hi, h0⟩ := LP.opt_feas ok.1.s I he
    have FB : FeasB b (LP.yv (quOf b pay lo).p (quOf b pay lo).q s) := F
    refine .inl ⟨kept_iff.mpr ⟨_, FB⟩, _, rfl, low_sz ⟨ob80 ok.1.b _ _, I.pos, dd80 ok.1.b _⟩, ?_⟩
    have hd := I.pos
    generalize hdd0 : LP.dd (quOf b pay lo).p s = dd at *
    generalize ho : LP.ob (quOf b pay lo).p s (quOf b pay lo).p.n = o at *
    have v1 := low_eq (t := o) hd
    have v2 := low_pos (t := o) hd
    generalize low o dd = v at *
    have hb : (0 : Int) < 1 * v.2 := by omega
    have f1 := low_eq (t := lo * v.2 + v.1 * 1) hb
    have f2 := low_pos (t := lo * v.2 + v.1 * 1) hb
    have f3 := low_coprime (t := lo * v.2 + v.1 * 1) hb
    have ef : fplus (lo, 1) v = low (lo * v.2 + v.1 * 1) (1 * v.2) := rfl
    rw [← ef] at f1 f2 f3
    generalize fplus (lo, 1) v = f at *
    -- f is (lo * dd + o) / dd
    have fd : f.1 * dd = (lo * dd + o) * f.2 := by
      have a1 : f.1 * v.2 * dd = (lo * dd + o) * f.2 * v.2 := by
        have b1 : f.1 * (1 * v.2) * dd = (lo * v.2 + v.1 * 1) * f.2 * dd := by rw [f1]
        have b2 : v.1 * dd * f.2 = o * v.2 * f.2 := by rw [v1]
        grind
      have a2 : (f.1 * dd) * v.2 = ((lo * dd + o) * f.2) * v.2 := by grind
      exact Int.eq_of_mul_eq_mul_right (by omega) a2
    refine ⟨f2, f3, ⟨_, FB, yv_cor h3.2 ok I hi h0, ?_⟩, fun x hx => ?_⟩
    · have e1 := dot_p3 (pay := pay) (lo := lo) FB
      have e2 : LP.dot (p3 b.1 pay lo) (LP.yv (quOf b pay lo).p (quOf b pay lo).q s) = o := du
      rw [t] at e1 ⊢
      rw [e2] at e1
      have e3 : LP.dot (pv b.1 pay) (LP.yv (quOf b pay lo).p (quOf b pay lo).q s) = lo * dd + o := by omega
      rw [e3, fd]
    · have l := LP.opt_least ok.1.s I hx
      have e1 := dot_p3 (pay := pay) (lo := lo) hx
      have l : LP.ob (quOf b pay lo).p s (quOf b pay lo).p.n * LP.tot x ≤ LP.dot (p3 b.1 pay lo) x * LP.dd (quOf b pay lo).p s := l
      have e2 : LP.dot (pv b.1 pay) x = LP.dot (p3 b.1 pay lo) x + lo * LP.tot x := by omega
      rw [ho] at l
      have hdd : LP.dd (quOf b pay lo).p s = dd := hdd0
      rw [hdd] at l
      have k1 : f.1 * LP.tot x * dd ≤ LP.dot (pv b.1 pay) x * f.2 * dd := by
        have b1 : f.1 * dd * LP.tot x = (lo * dd + o) * f.2 * LP.tot x := by rw [fd]
        have b2 : o * LP.tot x * f.2 ≤ LP.dot (p3 b.1 pay lo) x * dd * f.2 := Int.mul_le_mul_of_nonneg_right l (Int.le_of_lt f2)
        rw [e2]
        have b3 : f.1 * LP.tot x * dd = lo * dd * LP.tot x * f.2 + o * LP.tot x * f.2 := by grind
        have b4 : (LP.dot (p3 b.1 pay lo) x + lo * LP.tot x) * f.2 * dd = LP.dot (p3 b.1 pay lo) x * dd * f.2 + lo * dd * LP.tot x * f.2 := by grind
        omega
      exact Int.le_of_mul_le_mul_right k1 hd
  · refine .inr ⟨?_, rfl⟩
    cases hk : kept b with
    | false => rfl
    | true =>
      obtain ⟨x, hx⟩ := kept_iff.mp hk
      exact (LP.unb_none ok.1.s I he hlv hx).elim
end Z
end
section
set_option Elab.async false
set_option linter.all false
set_option maxRecDepth 100000
set_option maxHeartbeats 400000
namespace Z
open PySem PySem.Spec PyProof.Rows L2 RZ
/-! ### least, greatest: plain -/
theorem min_ex : ∀ (xs : List Int) (x : Int), ∃ m, m ∈ x :: xs ∧ ∀ y ∈ x :: xs, m ≤ y
  | [], x => ⟨x, List.mem_cons_self, fun y hy => by rw [List.mem_singleton.mp hy]; exact Int.le_refl _⟩
  | z :: zs, x => by
    obtain ⟨m, h1, h2⟩ := min_ex zs z
    by_cases h : x ≤ m
    · exact ⟨x, List.mem_cons_self, fun y hy => by
        rcases List.mem_cons.mp hy with e | e
        · rw [e]; exact Int.le_refl _
        · exact Int.le_trans h (h2 y e)⟩
    · exact ⟨m, List.mem_cons_of_mem _ h1, fun y hy => by
        rcases List.mem_cons.mp hy with e | e
        · rw [e]; omega
        · exact h2 y e⟩
theorem ans_ex {a : Qu} (h : QuOk a) : ∃ d, Ans a d := by
  have ok := h.1.s.ok
  have go : ∀ {k : Nat} {b : LP.St}, LP.Left a.p k b → LP.Inv a.p b → ∃ d, Ans a d := by
    intro k b l
    induction l with
    | stop hs =>
      intro I
      rename_i b
      cases he : LP.ent a.p b with
      | none => exact ⟨_, .inl ⟨b, I, he, rfl⟩⟩
      | some s =>
        cases hl : LP.leav a.p b s with
        | none => exact ⟨_, .inr ⟨b, s, I, he, hl, rfl⟩⟩
        | some r =>
          unfold LP.nxt at hs
          rw [he] at hs
          have hs : (match LP.leav a.p b s with | none => none | some r => some (LP.setb b r s)) = none := hs
          rw [hl] at hs
          cases hs
    | go hg _ ih => exact fun I => ih (I.next ok hg)
  have h0 := LP.st0_inv h.1.s h.2
  obtain ⟨k, l⟩ := LP.left_all ok h0
  exact go l h0
theorem sz_int {n : Nat} {lo : Int} (h : lo.natAbs < 2 ^ n) (hn : 0 < n) : Sz n (lo, 1) := ⟨h, by show (0 : Int) < 1; decide, Nat.one_lt_two_pow (Nat.ne_of_gt hn)⟩
theorem least_ex {b : Bk} {pay : List Int} (h : K3 b) (hp : PayOk b.1 pay) (hk : kept b = true) : ∃ f, IsLeast b pay f ∧ Sz 100 f := by
  have h2 := h.1.lo
  obtain ⟨x, xs, e⟩ : ∃ x xs, pay = x :: xs := by
    cases pay with
    | nil => have := hp.1; simp at this; omega
    | cons x xs => exact ⟨x, xs, rfl⟩
  obtain ⟨lo, h3, h4⟩ := min_ex xs x
  rw [← e] at h3 h4
  obtain ⟨d, hd⟩ := ans_ex (quOk h hp h3 h4)
  rcases ans_tells h hp h3 h4 hd with ⟨_, v, _, sv, il⟩ | ⟨hn, _⟩
  · refine ⟨_, il, sz_mono (plus_sz (m := 11) (sz_int ?_ (by decide)) sv) (by decide)⟩
    have := hp.2 lo h3
    have e : (2 : Nat) ^ 11 = 2048 := by decide
    show lo.natAbs < 2 ^ 11
    rw [e]; omega
  · rw [hk] at hn
    cases hn
noncomputable def leastF (b : Bk) (pay : List Int) : Fr := @dite _ (∃ f, IsLeast b pay f ∧ Sz 100 f) (Classical.propDecidable _) (fun h => Classical.choose h) (fun _ => (0, 1))
theorem leastF_ok {b : Bk} {pay : List Int} (h : K3 b) (hp : PayOk b.1 pay) (hk : kept b = true) : IsLeast b pay (leastF b pay) ∧ Sz 100 (leastF b pay) := by
  have e := least_ex h hp hk
  unfold leastF
  rw [dif_pos e]
  exact Classical.choose_spec e
theorem leastF_eq {b : Bk} {pay : List Int} {f : Fr} (h : K3 b) (hp : PayOk b.1 pay) (hk : kept b = true) (l : IsLeast b pay f) : leastF b pay = f := (leastF_ok h hp hk).1.uniq l
noncomputable def greatF (b : Bk) (pay : List Int) : Fr := (-(leastF b (pay.map fun n => -n)).1, (leastF b (pay.map fun n => -n)).2)
theorem PayOk.neg {k : Nat} {pay : List Int} (h : PayOk k pay) : PayOk k (pay.map fun n => -n) := ⟨by rw [List.length_map]; exact h.1, fun n hn => by
  obtain ⟨m, hm, rfl⟩ := List.mem_map.mp hn
  have := h.2 m hm
  omega⟩
section
variable {X : Cx} {J : Jx} {Γ : Gam} {e a b c : Expr} {es : List Expr} {pos p : Pos} {P P' : D → Prop} {d : D}
theorem x_ansVP (T : Fac X.K X.mg) (ha : Ev X J Γ a P) (hP : ∀ d, P d → ∃ x, d = .ans x ∧ P' x) (hab : attributeBase a "value" X.env (eval a X.env) = eval a X.env := by rfl) : Ev X J Γ (.Attribute a "value" pos) P' := fun σ B H w f Q q =>
  ofE (pe_fld wpE.pe hab) (ha σ B H w f _ fun x v B1 H1 px s1 dx => by
    obtain ⟨y, rfl, py⟩ := hP x px
    obtain ⟨p, dd, x, z, u, rfl, h1, h2⟩ := den_ans.mp dx
    exact ⟨p, _, dd, _, x, rfl, s1.w.s _ _ h1, k_Answer T, no_Answer_value T, rfl, q _ _ B1 H1 py s1 h2⟩)
theorem x_notNP {j2 p2} (ha : Ev X J Γ a P) (hP : ∀ d, P d → P' (.bl (!isNon d))) : Ev X J Γ (.Compare a [.IsNot] [.Constant .none j2 p2] pos) P' := fun σ B H w f Q q =>
  ofE (pe_cmpR op_notN wpE.pe pe_non (nomark _)) (ha σ B H w f _ fun x' v B1 H1 px s1 dx => ⟨rfl, by rw [den_isNon dx]; exact q _ _ B1 H1 (hP _ px) s1 (den_bl.mpr rfl)⟩)
end
section
variable {P : Program} {w : World} {K : PySem.W.Frag} {mg : Str → Option Value} {base : Heap}
theorem zeros_ok (b : Bk) : PayOk b.1 (List.replicate b.1 0) := ⟨by simp, fun n hn => by rw [(List.mem_replicate.mp hn).2]; decide⟩
theorem ok_plain_answer (T : Fac K mg) : Ok P w K mg base "plain_answer" 7 ["book"] (Pm K (fun b : Bk => [bD b]) K3 (fun b d => (kept b = true ∧ ∃ v : Fr, d = .ans (frD v)) ∨ (kept b = false ∧ d = .ans .non))) := by
  refine okD (f_plain_answer T) (g_plain_answer T) c_plain_answer (fun _ => rfl) ?_
  intro cdv Ar outer s E J B H b hr h3
  have h2 := h3.1.lo
  have h6 := h3.1.hi
  refine hb_ret (P := LeastAns b (List.replicate b.1 0)) (x_fn (ok_least_answer T) hr (by decide) (a_cons (x_var 0) (a_cons (Ev.is (x_repT (xs := [.int 0]) (k := (b.1 : Nat)) (x_tup (a_cons x_int a_nil)) (x_out T hr (by decide) (x_var 0)) (by omega) (by decide) (by simp)) (d' := .tup ((List.replicate b.1 (0 : Int)).map D.int)) ?_) a_nil)) (fun ds e => ⟨(b, List.replicate b.1 0), e, ⟨h3, zeros_ok b⟩, fun d h => h⟩)) (fun d h => ?_)
  · rw [list_rep, Int.toNat_natCast, List.map_replicate]
  · obtain ⟨lo, h1, h4, h5⟩ := h
    rcases ans_tells h3 (zeros_ok b) h1 h4 h5 with ⟨hk, v, e, _⟩ | ⟨hk, e⟩
    · exact .inl ⟨hk, v, e⟩
    · exact .inr ⟨hk, e⟩
theorem ok_is_kept_by_some (T : Fac K mg) : Ok P w K mg base "is_kept_by_some" 8 ["book"] (Pm K (fun b : Bk => [bD b]) K3 (fun b d => d = .bl (kept b))) := by
  refine okD (f_is_kept_by_some T) (g_is_kept_by_some T) c_is_kept_by_some (fun _ => rfl) ?_
  intro cdv Ar outer s E J B H b hr h3
  exact hb_ret (P := fun d => d = .bl (kept b)) (x_notNP (P := fun d => isNon d = !kept b) (x_ansVP T (x_fn (P := fun d => (kept b = true ∧ ∃ v : Fr, d = .ans (frD v)) ∨ (kept b = false ∧ d = .ans .non)) (ok_plain_answer T) hr (by decide) (a_cons (x_var 0) a_nil) (fun ds e => ⟨b, e, h3, fun d h => h⟩)) (fun d h => by
    rcases h with ⟨hk, v, e⟩ | ⟨hk, e⟩
    · exact ⟨_, e, by rw [hk]; rfl⟩
    · exact ⟨_, e, by rw [hk]; rfl⟩)) (fun d h => by rw [h, Bool.not_not])) fun _ h => h
theorem ok_check_sound (T : Fac K mg) : Ok P w K mg base "check_sound" 9 ["book"] (Pm K (fun b : Bk => [bD b]) (fun b => K3 b ∧ kept b = true) (fun _ d => d = .non)) := by
  refine okD (f_check_sound T) (g_check_sound T) c_check_sound (fun _ => rfl) ?_
  rintro cdv Ar outer s E J B H b hr ⟨h3, hk⟩
  exact hb_ifR (PT := fun k => k = false) ((t_notB (t_bl (x_fnD (ok_is_kept_by_some T) b hr (a_cons (x_var 0) a_nil) h3))).weak fun _ e => by rw [e, hk]; rfl) (fun z => by cases z) (fun _ => hb_nil fun σ B' H' s' => ⟨s'.st, rfl⟩)
theorem ok_is_sound (T : Fac K mg) : Ok P w K mg base "is_sound" 9 ["book"] (Pm K (fun b : Bk => [bD b]) K3 (fun b d => d = .bl (kept b))) := by
  refine okD (f_is_sound T) (g_is_sound T) c_is_sound (fun _ => rfl) ?_
  intro cdv Ar outer s E J B H b hr h3
  exact hb_expr (P := (· = .non)) (x_fnD (val := fun _ => .non) (ok_check_book T) b hr (a_cons (x_var 0) a_nil) trivial) (hb_ret (x_fnD (ok_is_kept_by_some T) b hr (a_cons (x_var 0) a_nil) h3) fun _ e => e)
theorem ok_least_by (T : Fac K mg) : Ok P w K mg base "least_by" 7 ["book", "payoff"] (Pm K (fun a : Bk × List Int => [bD a.1, .tup (a.2.map D.int)]) (fun a => K3 a.1 ∧ PayOk a.1.1 a.2 ∧ kept a.1 = true) (fun a d => d = frD (leastF a.1 a.2))) := by
  refine okD (f_least_by T) (g_least_by T) c_least_by (fun _ => rfl) ?_
  rintro cdv Ar outer s E J B H ⟨b, pay⟩ hr ⟨h3, hp, hk⟩
  have h2 : 2 ≤ b.1 := h3.1.lo
  have hl : pay.length = b.1 := hp.1
  refine hb_ret (P := fun d => d = frD (leastF b pay)) (x_fn (PS := fun ds => ∃ (lo : Int) (v : Fr), ds = [frD (lo, 1), frD v] ∧ (lo ∈ pay ∧ ∀ y ∈ pay, lo ≤ y) ∧ Sz 80 v ∧ IsLeast b pay (fplus (lo, 1) v)) (ok_plus T) hr (by decide) (a_consP (PA := fun d => ∃ lo : Int, d = frD (lo, 1) ∧ lo ∈ pay ∧ ∀ y ∈ pay, lo ≤ y) (PS := fun ds => ∃ (lo : Int) (v : Fr), ds = [frD v] ∧ (lo ∈ pay ∧ ∀ y ∈ pay, lo ≤ y) ∧ Sz 80 v ∧ IsLeast b pay (fplus (lo, 1) v))
    (x_tupP (PS := fun ds => ∃ lo : Int, ds = [.int lo, .int 1] ∧ lo ∈ pay ∧ ∀ y ∈ pay, lo ≤ y) (a_consP (PA := fun d => ∃ lo : Int, d = .int lo ∧ lo ∈ pay ∧ ∀ y ∈ pay, lo ≤ y) (PS := (· = [.int 1])) (x_minT hr (b_min T) (x_var 1) (by omega) (fun m h1 h2 => ⟨m, rfl, h1, h2⟩)) (a_cons x_int a_nil) (fun d ds ⟨lo, e, h⟩ e2 => ⟨lo, by rw [e, e2], h⟩)) (fun ds ⟨lo, e, h⟩ => ⟨by rw [e]; simp, lo, by rw [e], h⟩))
    (a_consP (PA := fun d => ∃ (lo : Int) (v : Fr), d = frD v ∧ (lo ∈ pay ∧ ∀ y ∈ pay, lo ≤ y) ∧ Sz 80 v ∧ IsLeast b pay (fplus (lo, 1) v)) (PS := (· = [])) (x_ansVP T (x_fn (P := LeastAns b pay) (ok_least_answer T) hr (by decide) (a_cons (x_var 0) (a_cons (x_var 1) a_nil)) (fun ds e => ⟨(b, pay), e, ⟨h3, hp⟩, fun d h => h⟩)) (fun d h => ?_)) a_nil (fun d ds ⟨lo, v, e, h⟩ e2 => ⟨lo, v, by rw [e, e2], h⟩)) (fun d ds ⟨lo, e, h1, h2⟩ ⟨lo', v, e', ⟨h3, h4⟩, h5⟩ => ?_)) (fun ds ⟨lo, v, e, hlo, sv, il⟩ => ⟨((lo, 1), v), e, ⟨sz_int ?_ (by decide), sz_mono sv (by decide)⟩, fun d hd => by rw [hd, leastF_eq h3 hp hk il]⟩)) fun _ h => h
  · obtain ⟨lo, h1, h4, h5⟩ := h
    rcases ans_tells h3 hp h1 h4 h5 with ⟨_, v, e, sv, il⟩ | ⟨hn, _⟩
    · exact ⟨_, e, lo, v, rfl, ⟨h1, h4⟩, sv, il⟩
    · exact absurd (hk.symm.trans hn) (by decide)
  · have : lo = lo' := Int.le_antisymm (h2 _ h3) (h4 _ h1)
    subst this
    exact ⟨lo, v, by rw [e, e'], ⟨h3, h4⟩, h5⟩
  · have := hp.2 lo hlo.1
    exact Nat.lt_of_lt_of_le (show lo.natAbs < 2 ^ 11 by have e : (2 : Nat) ^ 11 = 2048 := (by decide); rw [e]; omega) (pow_le (by decide))
theorem ok_greatest_by (T : Fac K mg) : Ok P w K mg base "greatest_by" 8 ["book", "payoff"] (Pm K (fun a : Bk × List Int => [bD a.1, .tup (a.2.map D.int)]) (fun a => K3 a.1 ∧ PayOk a.1.1 a.2 ∧ kept a.1 = true) (fun a d => d = frD (greatF a.1 a.2))) := by
  refine okD (f_greatest_by T) (g_greatest_by T) c_greatest_by (fun _ => rfl) ?_
  rintro cdv Ar outer s E J B H ⟨b, pay⟩ hr ⟨h3, hp, hk⟩
  have h6 : b.1 ≤ 6 := h3.1.hi
  have hl : pay.length = b.1 := hp.1
  refine hb_unp (P := (· = frD (leastF b (pay.map fun n => -n)))) (sl := [2, 3]) (fun _ Γ => (Γ.set 2 (some (.int (leastF b (pay.map fun n => -n)).1))).set 3 (some (.int (leastF b (pay.map fun n => -n)).2))) (x_fnD (ok_least_by T) (b, pay.map fun n => -n) hr (a_cons (x_var 0) (a_cons (x_fnD (ok_turned T) pay hr (a_cons (x_var 1) a_nil) (by omega)) a_nil)) ⟨h3, hp.neg, hk⟩) (fun d e => by subst e; exact tg_pair 2 3 c_greatest_by.nd) (fun d _ => ?_)
  exact hb_ret (x_tup (a_cons (x_neg (x_var 2)) (a_cons (x_var 3) a_nil))) fun _ e => e
theorem ok_check_asked (T : Fac K mg) : Ok P w K mg base "check_asked" 10 ["book", "payoff"] (Pm K (fun a : Bk × List Int => [bD a.1, .tup (a.2.map D.int)]) (fun a => K3 a.1 ∧ PayOk a.1.1 a.2 ∧ kept a.1 = true) (fun a d => d = .non)) := by
  refine okD (f_check_asked T) (g_check_asked T) c_check_asked (fun _ => rfl) ?_
  rintro cdv Ar outer s E J B H ⟨b, pay⟩ hr ⟨h3, hp, hk⟩
  refine hb_expr (P := (· = .non)) (x_fnD (val := fun _ => .non) (ok_check_book T) b hr (a_cons (x_var 0) a_nil) trivial) ?_
  refine hb_expr (P := (· = .non)) (x_fnD (val := fun _ => .non) (ok_check_payoff T) (pay, b.1) hr (a_cons (x_var 1) (a_cons (x_out (b := b) T hr (by decide) (x_var 0)) a_nil)) ⟨hp, h3.1.hi⟩) ?_
  exact hb_expr (P := (· = .non)) (x_fnD (val := fun _ => .non) (ok_check_sound T) b hr (a_cons (x_var 0) a_nil) ⟨h3, hk⟩) (hb_nil fun σ B' H' s' => ⟨s'.st, rfl⟩)
theorem ok_least_worth (T : Fac K mg) : Ok P w K mg base "least_worth" 11 ["book", "payoff"] (Pm K (fun a : Bk × List Int => [bD a.1, .tup (a.2.map D.int)]) (fun a => K3 a.1 ∧ PayOk a.1.1 a.2 ∧ kept a.1 = true) (fun a d => d = frD (leastF a.1 a.2))) := by
  refine okD (f_least_worth T) (g_least_worth T) c_least_worth (fun _ => rfl) ?_
  rintro cdv Ar outer s E J B H ⟨b, pay⟩ hr h
  refine hb_expr (P := (· = .non)) (x_fnD (val := fun _ => .non) (ok_check_asked T) (b, pay) hr (a_cons (x_var 0) (a_cons (x_var 1) a_nil)) h) ?_
  exact hb_ret (x_fnD (ok_least_by T) (b, pay) hr (a_cons (x_var 0) (a_cons (x_var 1) a_nil)) h) fun _ e => e
def broken (qs : List Qt) (ch : List Fr) : List Qt := qs.filter fun q => fless (worth q.1 ch) q.2
theorem ok_is_left (T : Fac K mg) : Ok P w K mg base "is_left" 6 ["book", "chance"] (Pm K (fun a : Bk × List Fr => [bD a.1, .tup (a.2.map frD)]) (fun a => BkOk a.1 ∧ ChOk a.1.1 a.2) (fun a d => d = .bl (decide ((broken a.1.2 a.2).length < 2)))) := by
  refine okD (f_is_left T) (g_is_left T) c_is_left (fun _ => rfl) ?_
  rintro cdv Ar outer s E J B H ⟨b, ch⟩ hr ⟨hb, hc⟩
  have h8 : b.2.length ≤ 8 := hb.few
  refine hb_expr (P := (· = .non)) (x_fnD (val := fun _ => .non) (ok_check_book T) b hr (a_cons (x_var 0) a_nil) trivial) ?_
  refine hb_expr (P := (· = .non)) (x_fnD (val := fun _ => .non) (ok_check_chance T) (ch, b.1) hr (a_cons (x_var 1) (a_cons (x_out (b := b) T hr (by decide) (x_var 0)) a_nil)) hc) ?_
  refine hb_ret (x_lt (x_lenL (b_len T) (EvO.lst (o_lcI [("payoff", 2), ("price", 3)] [2, 3] (xs := b.2) qD (fun q Γ => (Γ.set 2 (some (.tup (q.1.map D.int)))).set 3 (some (frD q.2))) (fun q => fless (worth q.1 ch) q.2) (fun q => frD q.2) (i_tup (x_quo (b := b) T hr (by decide) (x_var 0))) c_is_left.nd (blk n_is_left (defScope s_is_left)) (by omega) ?_))) x_int) fun d e => ?_
  · rintro q hq Y ⟨_, _, _, _, _, rfl⟩
    have hQ := hb.qs q hq
    exact ⟨tg_pair 2 3 c_is_left.nd, t_bl (x_fnD (ok_is_less T) (worth q.1 ch, q.2) hr (a_cons (x_fnD (ok_worth_at T) (q.1, ch) hr (a_cons (x_var 2) (a_cons (x_var 1) a_nil)) ⟨hQ.pay, hc.sz⟩) (a_cons (x_var 3) a_nil)) ⟨sz_mono (worth_sz hQ.pay hc.sz) (by decide), sz_mono hQ.pr.sz2 (by decide)⟩), fun _ => x_var 3⟩
  · rw [e, List.length_map]
    exact congrArg D.bl (decide_eq_decide.mpr (Int.ofNat_lt (n := (broken b.2 ch).length) (m := 2)))
theorem ok_culprits (T : Fac K mg) : Ok P w K mg base "culprits" 10 ["book"] (Pm K (fun b : Bk => [bD b]) K3 (fun b d => d = .tup ((if kept b = true then [] else (List.range b.2.length).filter fun i => kept (lessQ b i)).map fun (i : Nat) => D.int (i : Int)))) := by
  refine okD (f_culprits T) (g_culprits T) c_culprits (fun _ => rfl) ?_
  intro cdv Ar outer s E J B H b hr h3
  have h8 := h3.1.few
  refine hb_expr (P := (· = .non)) (x_fnD (val := fun _ => .non) (ok_check_book T) b hr (a_cons (x_var 0) a_nil) trivial) ?_
  refine hb_ifR (t_bl (x_fnD (ok_is_kept_by_some T) b hr (a_cons (x_var 0) a_nil) h3)) (fun hk => hb_ret (x_tup a_nil) fun d e => by subst e; exact congrArg (fun l : List Nat => D.tup (l.map fun (i : Nat) => D.int (i : Int))) (if_pos (t := ([] : List Nat)) hk.symm).symm) (fun hk => ?_)
  refine hb_ret (x_tuple (b_tuple T) (EvO.lst (o_lcI [("index", 1)] [1] (xs := List.range b.2.length) (fun (i : Nat) => D.int (i : Int)) (fun i Γ => Γ.set 1 (some (.int (i : Nat)))) (fun i => kept (lessQ b i)) (fun (i : Nat) => D.int (i : Int)) (i_range1 (n := (b.2.length : Nat)) ((x_lenT (b_len T) (x_quo T hr (by decide) (x_var 0))).is (by rw [List.length_map])) (by omega) (b_range T)) c_culprits.nd (blk n_culprits (defScope s_culprits)) (by rw [List.length_range]; omega) ?_))) (fun d e => by subst e; exact congrArg (fun l : List Nat => D.tup (l.map fun (i : Nat) => D.int (i : Int))) (if_neg (by rw [← hk]; decide)).symm)
  rintro i hi Y ⟨_, _, _, _, _, rfl⟩
  have hi := List.mem_range.mp hi
  exact ⟨tg_name 1 c_culprits.nd, t_bl (x_fnD (ok_is_kept_by_some T) (lessQ b i) hr (a_cons (x_fnD (ok_less_one T) (b, i) hr (a_cons (x_var 0) (a_cons (x_var 1) a_nil)) ⟨h3.1, hi⟩) a_nil) ⟨h3.1.less i, h3.2⟩), fun _ => x_var 1⟩
end
end Z
end
section
set_option Elab.async false
set_option linter.all false
set_option maxRecDepth 100000
set_option maxHeartbeats 400000
namespace Z
open PySem PySem.Spec PyProof.Rows L2 RZ
section
variable {X : Cx} {J : Jx} {B0 H0 : Hp} {Γ Γ' : Gam} {O O' : Own} {N M : Sp3} {R : Rp} {st : Stmt} {rest body : List Stmt} {e c a b idx : Expr} {es : List Expr} {pos : Pos} {P : D → Prop} {d : D}
def anyI (d : D) : Prop := ∃ n : Int, d = .int n
theorem x_mulS {i j : Int} (ha : Ev X J Γ a (· = .int i)) (hb : Ev X J Γ b (· = .int j)) (hc : CMul i j) : Ev X J Γ (.BinOp a .Mult b pos) (· = .int (i * j)) := x_opI (g := fun i j => i * j) op_mul ha hb fun _ _ e1 e2 => ⟨i, j, e1, e2, hc, rfl⟩
theorem x_mulSP {PA PB P : D → Prop} (ha : Ev X J Γ a PA) (hb : Ev X J Γ b PB) (k : ∀ x y, PA x → PB y → ∃ i j, x = .int i ∧ y = .int j ∧ CMul i j ∧ P (.int (i * j))) : Ev X J Γ (.BinOp a .Mult b pos) P := x_opI (g := fun i j => i * j) op_mul ha hb k
theorem x_divP {PA PB P : D → Prop} (ha : Ev X J Γ a PA) (hb : Ev X J Γ b PB) (k : ∀ x y, PA x → PB y → ∃ i j, x = .int i ∧ y = .int j ∧ CDivW i j ∧ P (.int (i / j))) : Ev X J Γ (.BinOp a .FloorDiv b pos) P := x_opI (g := fun i j => i / j) op_fdivW ha hb k
theorem x_modP {PA PB P : D → Prop} (ha : Ev X J Γ a PA) (hb : Ev X J Γ b PB) (k : ∀ x y, PA x → PB y → ∃ i j : Int, x = .int i ∧ y = .int j ∧ 0 < j ∧ P (.int (i % j))) : Ev X J Γ (.BinOp a .Mod b pos) P := x_opI (C := fun _ j => 0 < j) (g := fun i j => i % j) op_mod ha hb k
theorem x_intP {p : Pos} (hm : X.mg "int" = none) (ha : Ev X J Γ e anyI) (hg : Gl X "int" := by rfl) (he : starEach [e] X.env = (false, eval e X.env) :: starEach [] X.env := by rfl) (hpl : (backTo pos (starEach [] X.env)).any (·.1) = false := by rfl) : Ev X J Γ (.Call (.Name "int" p) [e] [] pos) anyI :=
  x_bty (T := "int") (PS := fun ds => ∃ n : Int, ds = [.int n]) call_int1 hm (by decide +kernel) (a_consP ha a_nil (fun d ds ⟨n, e1⟩ e2 => ⟨n, by rw [e1, e2]⟩) he) (fun _ ⟨n, e⟩ => by subst e; exact c_int1 ⟨n, rfl⟩) hg (by decide) (by decide) he hpl
/-! ### the jar -/
theorem x_jar {i : Int} (ha : Ev X J Γ a (· = .jar)) (hb : Ev X J Γ b (· = .int i)) (hi : i = 0 ∨ i = 1 ∨ i = 2) (hs : PlainIx b := by exact fun _ _ => rfl) : Ev X J Γ (.Subscript a b pos) anyI := fun σ B H w f Q q =>
  ofE (pe_ix ix_list wpE.pe wpE.pe hs) (two (ta := wpE X a) (tb := wpE X b) ha hb w f fun x y v u B' H' px py s dx dy => by
    subst px py
    obtain ⟨j, hj, rfl⟩ := den_jar.mp dx
    obtain ⟨_, n0, n1, n2, h0, hJ⟩ := s.w.j j hj
    rcases hi with rfl | rfl | rfl
    · exact ⟨j, _, 0, .int n0, rfl, den_int.mp dy, SqL.of hJ, rfl, q _ _ B' H' ⟨n0, rfl⟩ s (den_int.mpr rfl)⟩
    · exact ⟨j, _, 1, .int n1, rfl, den_int.mp dy, SqL.of hJ, rfl, q _ _ B' H' ⟨n1, rfl⟩ s (den_int.mpr rfl)⟩
    · exact ⟨j, _, 2, .int n2, rfl, den_int.mp dy, SqL.of hJ, rfl, q _ _ B' H' ⟨n2, rfl⟩ s (den_int.mpr rfl)⟩)
/-- the jar is changed -/
theorem S.jar {K : PySem.W.Frag} {B H : Hp} {σ : L2.St} (s : S K J B0 H0 Γ O σ B H) {j : Addr} (hj : J.jar = some j) {n0 n1 n2 : Int} (h0 : 0 ≤ n0) : S K J B0 H0 Γ O σ B (upd H j (.lst [.int n0, .int n1, .int n2])) := by
  have w := s.w
  have hb := (w.j j hj).1
  refine ⟨⟨s.st.b, ⟨same_up w.s hb, fun j' e => ?_, fun t e => ?_⟩, fun y hy h1 h2 => ?_⟩, s.fit, fun q hq => ?_, s.dj, s.len⟩
  · have : j = j' := Option.some.inj (hj.symm.trans e)
    subst this
    exact ⟨hb, n0, n1, n2, h0, upd_same⟩
  · obtain ⟨T, nj⟩ := w.t t e
    obtain ⟨k1, k2, k3⟩ := nj j hj
    obtain ⟨vs, v1, v2, v3⟩ := T.hl
    exact ⟨⟨T.a, T.l, T.b, by rw [upd_ne (Ne.symm k1)]; exact T.ha, ⟨vs, by rw [upd_ne (Ne.symm k2)]; exact v1, v2, v3⟩, by rw [upd_ne (Ne.symm k3)]; exact T.hb, T.ne⟩, nj⟩
  · have ne : y ≠ j := fun z => hy (by rw [z]; exact hj)
    obtain ⟨e1, e2⟩ := s.st.own y hy h1 h2
    exact ⟨e1, by rw [upd_ne ne]; exact e2⟩
  · obtain ⟨a, vs, o⟩ := s.own q hq
    have ne : a ≠ j := fun z => o.nj (.inl (by rw [z]; exact hj))
    exact ⟨a, vs, o.at_, o.nj, o.new, o.out, by rw [upd_ne ne]; exact o.lst, o.den⟩
/-- jar[i] = e, i 1 or 2 -/
theorem hb_jarset {i : Int} {p2 : Pos} (ha : Ev X J Γ a (· = .jar)) (hidx : Ev X J Γ idx (· = .int i)) (he : Ev X J Γ e anyI) (hi : i = 1 ∨ i = 2) (k : HB X rest (SX X J B0 H0 Γ O) N R)
    (hs : swapsWithSole [.Subscript a idx p2] e pos.line X.env = pure false := by rfl) (hw : swappedStores [.Subscript a idx p2] e X.env = pure none := by rfl) (hone : (assignEach [.Subscript a idx p2] X.env).map (·.2) = [assign (.Subscript a idx p2) X.env] := by rfl)
    (has : ∀ v, assign (.Subscript a idx p2) X.env v = (do
      let ov ← holding [v] (eval a X.env)
      let iv ← holding [v, ov] (eval idx X.env)
      standAt p2
      holding [v, ov, iv] (setItem ov iv v)
      release [v, ov, iv] []) := by intro _; rfl) :
    HB X (.Assign [.Subscript a idx p2] e pos :: rest) (SX X J B0 H0 Γ O) N R := hb_cons (M := SX X J B0 H0 Γ O) (fun σ B H s E n _ =>
  ofS (ps_asg wpE.pe (pg_sub wpE.pe wpE.pe set_list has) hs hw hone) (he σ B H s.w s.fit _ fun d v B1 H1 ⟨x, ex⟩ t1 hd => by
    subst ex
    have s1 := s.step t1
    refine ha σ _ H1 s1.w s1.fit _ fun d2 v2 B2 H2 e2 t3 hd2 => ?_
    subst e2
    have s2 := s1.step t3
    refine hidx σ B2 H2 s2.w s2.fit _ fun d3 v3 B3 H3 e3 t4 hd3 => ?_
    subst e3
    have s3 := s2.step t4
    obtain ⟨j, hj, rfl⟩ := den_jar.mp hd2
    obtain ⟨_, n0, n1, n2, h0, hJ⟩ := s3.w.j j hj
    rw [den_int.mp hd]
    rcases hi with rfl | rfl
    · exact ⟨j, _, 1, 1, rfl, den_int.mp hd3, hJ, rfl, n σ B3 _ ((t1.b.trans t3.b).trans t4.b) (s3.jar hj h0)⟩
    · exact ⟨j, _, 2, 2, rfl, den_int.mp hd3, hJ, rfl, n σ B3 _ ((t1.b.trans t3.b).trans t4.b) (s3.jar hj h0)⟩)) k
/-- jar[0], x = divmod(jar[0], m) -/
theorem hb_jardm (slot : Nat) {m : Int} {x : Str} {p2 p3 p4 p5 p6 : Pos} {kt : Nat} {e1 e2 : Expr} (ha : Ev X J Γ a (· = .jar)) (hidx : Ev X J Γ idx (· = .int 0)) (he2 : Ev X J Γ e2 (· = .int m)) (hm : 0 < m ∧ m < 1073741824) (hmg : X.mg "divmod" = none)
    (k : ∀ n : Int, 0 ≤ n → n < m → HB X rest (SX X J B0 H0 (Γ.set slot (some (.int n))) []) N R) (hN : X.N.Nodup)
    (hnn : Ev X J Γ e1 (fun d => ∃ n : Int, d = .int n ∧ 0 ≤ n)) (hi : X.N[slot]? = some x := by rfl) (hx : Loc X.env.scope x := by first | exact Or.inl rfl | exact Or.inr rfl) (hf : X.fn x = true ∨ X.env.scope.names.lookup x = some .local := by first | exact .inl rfl | exact .inr rfl)
    (hg : Gl X "divmod" := by rfl) (hst : starEach [e1, e2] X.env = (false, eval e1 X.env) :: starEach [e2] X.env := by rfl) (hst2 : starEach [e2] X.env = (false, eval e2 X.env) :: starEach [] X.env := by rfl) (hpl : (backTo p6 (starEach [e2] X.env)).any (·.1) = false := by rfl)
    (hs : swapsWithSole [.Tuple [.Subscript a idx p2, .Name x p3] kt p4] (.Call (.Name "divmod" p5) [e1, e2] [] p6) pos.line X.env = pure false := by rfl) (hw : swappedStores [.Tuple [.Subscript a idx p2, .Name x p3] kt p4] (.Call (.Name "divmod" p5) [e1, e2] [] p6) X.env = pure none := by rfl)
    (hone : (assignEach [.Tuple [.Subscript a idx p2, .Name x p3] kt p4] X.env).map (·.2) = [assign (.Tuple [.Subscript a idx p2, .Name x p3] kt p4) X.env] := by rfl)
    (has : ∀ v, assign (.Subscript a idx p2) X.env v = (do
      let ov ← holding [v] (eval a X.env)
      let iv ← holding [v, ov] (eval idx X.env)
      standAt p2
      holding [v, ov, iv] (setItem ov iv v)
      release [v, ov, iv] []) := by intro _; rfl)
    (hc1 : (assignEach [.Subscript a idx p2, .Name x p3] X.env).map (·.2) = assign (.Subscript a idx p2) X.env :: (assignEach [.Name x p3] X.env).map (·.2) := by rfl) (hc2 : (assignEach [.Name x p3] X.env).map (·.2) = assign (.Name x p3) X.env :: (assignEach [] X.env).map (·.2) := by rfl)
    (hn : (assignEach [.Subscript a idx p2, .Name x p3] X.env).length = 2 := by rfl) (hfi : (assignEach [.Subscript a idx p2, .Name x p3] X.env).findIdx? (·.1) = none := by rfl) (hcalm : X.calm = true := by rfl) :
    HB X (.Assign [.Tuple [.Subscript a idx p2, .Name x p3] kt p4] (.Call (.Name "divmod" p5) [e1, e2] [] p6) pos :: rest) (SX X J B0 H0 Γ []) N R := hb_cons (M := fun σ B H => ∃ n : Int, 0 ≤ n ∧ n < m ∧ SX X J B0 H0 (Γ.set slot (some (.int n))) [] σ B H) (fun σ B H s E nx _ =>
  ofS (ps_asg (pe_callB call_divmod hg hmg (by decide +kernel) (pa_cons wpE.pe (pa_cons wpE.pe pa_nil hst2) hst) (by decide) (by decide) hst hpl) (pg_tup hcalm (pgs_cons (pg_sub wpE.pe wpE.pe set_list has) (pgs_cons (pg_name hN hi hx hf) pgs_nil hc2) hc1) hn hfi) hs hw hone) (hnn σ B H s.w s.fit _ fun d v B1 H1 ⟨i, ei, hi0⟩ t1 hd => he2 σ B1 H1 t1.w (s.fit.mono t1.b) _ fun d2 v2 B2 H2 e2 t2 hd2 => by
    subst ei e2
    have s2 := (s.step t1).step t2
    refine ⟨i, m, by rw [den_int.mp hd, den_int.mp hd2], ⟨hm.1, hm.2⟩, fun p hp => ?_⟩
    have t3 := Stp.new s2.w (o := .tup [.int (i / m), .int (i % m)]) hp
    have s3 := s2.step t3
    refine ⟨p, _, rfl, SqT.of upd_same, rfl, .int (i / m), [.int (i % m)], rfl, ?_⟩
    refine ha σ _ _ s3.w s3.fit _ fun d4 v4 B4 H4 e4 t4 hd4 => ?_
    subst e4
    have s4 := s3.step t4
    refine hidx σ B4 H4 s4.w s4.fit _ fun d5 v5 B5 H5 e5 t5 hd5 => ?_
    subst e5
    have s5 := s4.step t5
    obtain ⟨j, hj, rfl⟩ := den_jar.mp hd4
    obtain ⟨_, n0, n1, n2, h0, hJ⟩ := s5.w.j j hj
    refine ⟨j, _, 0, 0, rfl, den_int.mp hd5, hJ, rfl, .int (i % m), [], rfl, rfl, ?_⟩
    have s6 := s5.jar (n0 := i / m) (n1 := n1) (n2 := n2) hj (Int.ediv_nonneg hi0 (Int.le_of_lt hm.1))
    exact nx _ B5 _ ((((t1.b.trans t2.b).trans t3.b).trans t4.b).trans t5.b) ⟨i % m, Int.emod_nonneg _ (by omega), Int.emod_lt_of_pos _ hm.1, s6.set (O' := []) (den_int.mpr rfl) (fun _ h => by cases h)⟩))
  (.ex fun n σ B H ⟨h0, h1, s⟩ => k n h0 h1 σ B H s)
/-- jar[0] is from 0 on -/
theorem x_jar0 (ha : Ev X J Γ a (· = .jar)) (hb : Ev X J Γ b (· = .int 0)) (hs : PlainIx b := by exact fun _ _ => rfl) : Ev X J Γ (.Subscript a b pos) (fun d => ∃ n : Int, d = .int n ∧ 0 ≤ n) := fun σ B H w f Q q =>
  ofE (pe_ix ix_list wpE.pe wpE.pe hs) (two (ta := wpE X a) (tb := wpE X b) ha hb w f fun x y v u B' H' px py s dx dy => by
    subst px py
    obtain ⟨j, hj, rfl⟩ := den_jar.mp dx
    obtain ⟨_, n0, n1, n2, h0, hJ⟩ := s.w.j j hj
    exact ⟨j, _, 0, .int n0, rfl, den_int.mp dy, SqL.of hJ, rfl, q _ _ B' H' ⟨n0, rfl, h0⟩ s (den_int.mpr rfl)⟩)
theorem t_gtP {PA : D → Prop} {j : Int} (ha : Ev X J Γ a PA) (hP : ∀ d, PA d → ∃ n : Int, d = .int n) (hb : Ev X J Γ b (· = .int j)) : EvT X J Γ (.Compare a [.Gt] [b] pos) (fun _ => True) := fun σ B H w f Q q =>
  ofT (pt_cmpR op_gt wpE.pe wpE.pe (nomark _)) (two (ta := wpE X a) (tb := wpE X b) ha hb w f fun x y v u B' H' px py s dx dy => by
    obtain ⟨n, rfl⟩ := hP x px
    subst py
    exact ⟨n, j, den_int.mp dx, den_int.mp dy, _, rfl, q _ B' H' trivial s⟩)
end
def below (m : Int) (d : D) : Prop := ∃ n : Int, d = .int n ∧ 0 ≤ n ∧ n < m
section
variable {P : Program} {w : World} {K : PySem.W.Frag} {mg : Str → Option Value} {base : Heap}
theorem mulS {i j : Int} (h : -(2 ^ 64) < j ∧ j < 2 ^ 64) : CMul i j := .inr h
theorem ok_Ldip (T : Fac K mg) : Ok P w K mg base "_law_dip" 1 ["_law_jar_here", "_law_top"] (Pm K (fun a : Int => [.jar, .int a]) (fun a => 0 < a ∧ a < 1000) (fun a d => below a d)) := by
  refine okD (f_Ldip T) (g_Ldip T) c_Ldip (fun _ => rfl) ?_
  rintro cdv Ar outer s E J B H a hr ⟨h0, h1⟩
  refine hb_jarset (x_var 0) x_int (x_addP (x_jar (x_var 0) x_int (by decide)) x_int (fun x y ⟨n, e1⟩ e2 => ⟨n, 1, e1, e2, _, rfl⟩)) (.inr rfl) ?_
  refine hb_ifR (t_gtP (x_jar (x_var 0) x_int (by decide)) (fun d h => h) x_int) (fun _ => ?_) (fun _ => ?_)
  · exact hb_jardm 2 (x_var 0) x_int (x_var 1) ⟨h0, by omega⟩ (b_divmod T) (fun n h2 h3 => hb_ret (x_var 2) fun d e => ⟨n, e, h2, h3⟩) c_Ldip.nd (x_jar0 (x_var 0) x_int)
  · refine hb_jarset (x_var 0) x_int (x_modP (x_intP (b_int T) (x_addP (P := anyI) (x_mulSP (P := anyI) (x_jar (x_var 0) x_int (by decide)) x_int (fun x y ⟨n, e1⟩ e2 => ⟨n, 48271, e1, e2, mulS (by decide), _, rfl⟩)) (x_mulSP (P := anyI) x_int (x_jar (x_var 0) x_int (by decide)) (fun x y e1 ⟨n, e2⟩ => ⟨30011, n, e1, e2, .inl (by decide), _, rfl⟩)) (fun x y ⟨n, e1⟩ ⟨m, e2⟩ => ⟨n, m, e1, e2, _, rfl⟩))) x_int (fun x y ⟨n, e1⟩ e2 => ⟨n, 2147483399, e1, e2, by decide, _, rfl⟩)) (.inl rfl) ?_
    refine hb_ret (x_modP (P := below a) (x_intP (b_int T) (x_divP (x_jar (x_var 0) x_int (by decide)) x_int (fun x y ⟨n, e1⟩ e2 => ⟨n, 512, e1, e2, wide_div (b := 10) (by decide) (by decide) (by decide) (by decide), _, rfl⟩))) (x_var 1) (fun x y ⟨n, e1⟩ e2 => ⟨n, a, e1, e2, h0, _, rfl, Int.emod_nonneg _ (by omega), Int.emod_lt_of_pos _ h0⟩)) fun d h => h
end
end Z
end
section
set_option Elab.async false
set_option linter.all false
set_option maxRecDepth 100000
set_option maxHeartbeats 400000
namespace Z
open PySem PySem.Spec PyProof.Rows L2 RZ
/-! ### what is drawn: plain -/
structure Drawn (k : Nat) (ch : List Fr) (ps : List Int) : Prop where
  len : ps.length = k
  pt : ∀ p ∈ ps, 0 ≤ p ∧ p ≤ 8
  pos : 0 < ps.sum
  le : ps.sum ≤ 18
  eq : ch = ps.map fun p => low p ps.sum
theorem low_id {t b : Int} (h : 0 < b) (g : gcdI t b = 1) : low t b = (t, b) := by
  unfold low
  rw [g]
  simp
theorem fplus_low {a W c V : Int} (hW : 0 < W) (hV : 0 < V) : fplus (low a W) (low c V) = low (a * V + c * W) (W * V) := by
  have a1 := low_eq (t := a) hW
  have a2 := low_pos (t := a) hW
  have c1 := low_eq (t := c) hV
  have c2 := low_pos (t := c) hV
  unfold fplus
  generalize low a W = x at *
  generalize low c V = y at *
  refine low_ext (Int.mul_pos a2 c2) (Int.mul_pos hW hV) ?_
  have e1 : x.1 * y.2 * (W * V) = (x.1 * W) * y.2 * V := by grind
  have e2 : y.1 * x.2 * (W * V) = (y.1 * V) * x.2 * W := by grind
  have e3 : (x.1 * y.2 + y.1 * x.2) * (W * V) = x.1 * y.2 * (W * V) + y.1 * x.2 * (W * V) := by grind
  rw [e3, e1, e2, a1, c1]
  grind
theorem fplus_same {a c W : Int} (hW : 0 < W) : fplus (low a W) (low c W) = low (a + c) W := by
  rw [fplus_low hW hW]
  exact low_ext (Int.mul_pos hW hW) hW (by grind)
theorem term_low {n p W : Int} (hW : 0 < W) : term (n, low p W) = low (n * p) W := by
  have a1 := low_eq (t := p) hW
  have a2 := low_pos (t := p) hW
  unfold term
  generalize low p W = x at *
  refine low_ext a2 hW ?_
  have : n * x.1 * W = n * (x.1 * W) := by grind
  rw [this, a1]
  grind
theorem low_zero {W : Int} (hW : 0 < W) : low 0 W = (0, 1) := by
  have : low 0 W = low 0 1 := low_ext hW (by decide) (by simp)
  rw [this]
  decide
def dotL (pay ps : List Int) : Int := ((pay.zip ps).map fun q => q.1 * q.2).sum
theorem worth_low {W : Int} (hW : 0 < W) (pay ps : List Int) : worth pay (ps.map fun p => low p W) = low (dotL pay ps) W := by
  rw [worth_fold]
  unfold fsum dotL
  have e : (pay.zip (ps.map fun p => low p W)).map term = (pay.zip ps).map fun q => low (q.1 * q.2) W := by
    rw [← List.map_id pay, List.zip_map, List.map_map, List.map_id]
    refine List.map_congr_left fun q _ => ?_
    exact term_low hW
  rw [e]
  have go : ∀ (l : List (Int × Int)) (a : Int), (l.map fun q => low (q.1 * q.2) W).foldl fplus (low a W) = low (a + (l.map fun q => q.1 * q.2).sum) W := by
    intro l
    induction l with
    | nil => intro a; simp
    | cons q l ih =>
      intro a
      rw [List.map_cons, List.foldl_cons, fplus_same hW, ih, List.map_cons, List.sum_cons, Int.add_assoc]
  have z := go (pay.zip ps) 0
  rw [low_zero hW, Int.zero_add] at z
  exact z
theorem dotL_bd {t : Int} (ht : 0 ≤ t) : ∀ (pay ps : List Int), (∀ n ∈ pay, -t ≤ n ∧ n ≤ t) → (∀ p ∈ ps, 0 ≤ p) → -(t * ps.sum) ≤ dotL pay ps ∧ dotL pay ps ≤ t * ps.sum
  | [], ps, _, hp => by
    have : 0 ≤ ps.sum := by
      clear ht
      induction ps with
      | nil => simp
      | cons p ps ih =>
        have h1 := hp p List.mem_cons_self
        have h2 := ih fun q hq => hp q (List.mem_cons_of_mem _ hq)
        rw [List.sum_cons]; omega
    have m := Int.mul_nonneg ht this
    simp [dotL]
    omega
  | _ :: _, [], _, _ => by simp [dotL]
  | n :: ns, p :: ps, hn, hp => by
    have ih := dotL_bd ht ns ps (fun m hm => hn m (List.mem_cons_of_mem _ hm)) (fun q hq => hp q (List.mem_cons_of_mem _ hq))
    have h1 := hn n List.mem_cons_self
    have h2 := hp p List.mem_cons_self
    have e : dotL (n :: ns) (p :: ps) = n * p + dotL ns ps := by simp [dotL]
    have m1 : n * p ≤ t * p := Int.mul_le_mul_of_nonneg_right h1.2 h2
    have m2 : -t * p ≤ n * p := Int.mul_le_mul_of_nonneg_right h1.1 h2
    rw [e, List.sum_cons, Int.mul_add]
    have e2 : -t * p = -(t * p) := Int.neg_mul ..
    omega
theorem low_le {t W : Int} (hW : 0 < W) : (low t W).2 ≤ W ∧ (low t W).1.natAbs ≤ t.natAbs := by
  have h := low_mul (t := t) hW
  have g := gcd_pos (t := t) hW
  have p := low_pos (t := t) hW
  refine ⟨?_, abs_div_le t _ g⟩
  have : (low t W).2 * 1 ≤ (low t W).2 * gcdI t W := Int.mul_le_mul_of_nonneg_left (by omega) (Int.le_of_lt p)
  omega
theorem gcd_low {t b : Int} (h : 0 < b) : gcdI (low t b).1 (low t b).2 = 1 := by
  unfold gcdI
  rw [low_coprime h]
  rfl
/-- a drawn price is a price -/
theorem price_ok {k : Nat} {ch : List Fr} {ps pay : List Int} {l : Int} (h : Drawn k ch ps) (hp : ∀ n ∈ pay, -5 ≤ n ∧ n ≤ 5) (hl : -3 ≤ l ∧ l ≤ 5) : FrOk 1000000 1000 (low ((worth pay ch).1 * 4 - l * (worth pay ch).2) ((worth pay ch).2 * 4)) := by
  have hW := h.pos
  have e := worth_low hW pay ps
  rw [← h.eq] at e
  rw [e]
  have b1 := low_le (t := dotL pay ps) hW
  have b2 := low_pos (t := dotL pay ps) hW
  have d := dotL_bd (by decide : (0 : Int) ≤ 5) pay ps hp (fun p hp => (h.pt p hp).1)
  have hle := h.le
  generalize hx : low (dotL pay ps) ps.sum = x at *
  generalize dotL pay ps = D at *
  have hb4 : 0 < x.2 * 4 := by omega
  have c1 := low_le (t := x.1 * 4 - l * x.2) hb4
  have c2 := low_pos (t := x.1 * 4 - l * x.2) hb4
  have c3 := gcd_low (t := x.1 * 4 - l * x.2) hb4
  have m1 : l * x.2 ≤ 5 * x.2 := Int.mul_le_mul_of_nonneg_right hl.2 (Int.le_of_lt b2)
  have m2 : -3 * x.2 ≤ l * x.2 := Int.mul_le_mul_of_nonneg_right hl.1 (Int.le_of_lt b2)
  generalize l * x.2 = y at *
  generalize low (x.1 * 4 - y) (x.2 * 4) = z at *
  exact ⟨by omega, by omega, by omega, by omega, c3⟩
theorem made_all {α β : Type} {c : β → D} {Pp : α → D → Prop} {Q : β → Prop} (hP : ∀ x y, Pp x y → ∃ b, y = c b ∧ Q b) {xs : List α} {ys : List D} (h : Made (fun _ => true) Pp xs ys) : ∃ bs : List β, ys = bs.map c ∧ bs.length = xs.length ∧ ∀ b ∈ bs, Q b := by
  induction h with
  | nil => exact ⟨[], rfl, rfl, fun _ h => by cases h⟩
  | yes _ h _ ih =>
    obtain ⟨bs, e1, e2, e3⟩ := ih
    obtain ⟨b, e4, e5⟩ := hP _ _ h
    refine ⟨b :: bs, by rw [e1, e4]; rfl, by simp [e2], fun z hz => ?_⟩
    rcases List.mem_cons.mp hz with q | q
    · rw [q]; exact e5
    · exact e3 z q
  | no hk _ ih => cases hk
section
variable {P : Program} {w : World} {K : PySem.W.Frag} {mg : Str → Option Value} {base : Heap}
theorem ok_Lone_of (T : Fac K mg) : Ok P w K mg base "_law_one_of" 2 ["_law_jar_here", "_law_some"] (Pm K (fun a : List Int => [.jar, .lst (a.map D.int)]) (fun a => 0 < a.length ∧ a.length < 1000) (fun a d => ∃ n, n ∈ a ∧ d = .int n)) := by
  refine okD (f_Lone_of T) (g_Lone_of T) c_Lone_of (fun _ => rfl) ?_
  rintro cdv Ar outer s E J B H a hr ⟨h0, h1⟩
  refine hb_ret (P := fun d => ∃ n, n ∈ a ∧ d = .int n) (x_ixLP (x_var 1) (x_fn (P := below (a.length : Nat)) (ok_Ldip T) hr (by decide) (a_cons (x_var 0) (a_cons (x_lenL (b_len T) (x_var 1)) a_nil)) (fun ds e => ⟨(a.length : Nat), by rw [e, List.length_map], ⟨by omega, by omega⟩, fun d h => h⟩)) (fun x y e1 ⟨n, e2, h2, h3⟩ => ?_)) fun _ h => h
  obtain ⟨m, rfl⟩ : ∃ m : Nat, n = (m : Int) := ⟨n.toNat, by omega⟩
  have hn : m < a.length := by omega
  exact ⟨a.map D.int, (m : Int), .int a[m], e1, e2, by rw [atI_nat, List.getElem?_map, List.getElem?_eq_getElem hn]; rfl, a[m], List.getElem_mem hn, rfl⟩
theorem ok_Lworth (T : Fac K mg) : Ok P w K mg base "_law_worth" 4 ["_law_payoff_here", "_law_chance_here"] (Pm K (fun a : List Int × List Fr => [.tup (a.1.map D.int), .tup (a.2.map frD)]) (fun a => a.1.length = a.2.length ∧ (∀ n ∈ a.1, -1000 ≤ n ∧ n ≤ 1000) ∧ ChSz a.2) (fun a d => d = frD (worth a.1 a.2))) := by
  refine okD (f_Lworth T) (g_Lworth T) c_Lworth (fun _ => rfl) ?_
  rintro cdv Ar outer s E J B H ⟨pay, ch⟩ hr ⟨hl, hp, hc⟩
  have hl : pay.length = ch.length := hl
  have h6 : ch.length ≤ 6 := hc.1
  have hzl : (pay.zip ch).length = pay.length := by rw [List.length_zip]; omega
  refine hb_set 2 (x_tup (a_cons x_int (a_cons x_int a_nil))) ?_ c_Lworth.nd
  refine hb_forN (α := Unit) 3 (n := (pay.length : Nat)) (fun _ _ => True) (fun i _ => [some (.tup (pay.map D.int)), some (.tup (ch.map frD)), some (frD (((pay.zip ch).take i).foldl (fun f q => fplus f (low (q.1 * q.2.1) q.2.2)) (0, 1))), none]) (fun _ _ => []) () ((x_lenT (b_len T) (x_var 0)).is (by rw [List.length_map])) (by omega) (b_range T)
    trivial (fun _ _ _ s => s) (fun _ _ q hq => by cases hq) (fun i _ hlt _ => ?_) (fun _ _ => ?_) PassesOwn.never c_Lworth.nd
  · have hi : i < pay.length := by omega
    have hz : (pay.zip ch)[i]? = some (pay[i], ch[i]'(by omega)) := by rw [List.getElem?_eq_getElem (by omega), List.getElem_zip]
    have hn := hp _ (List.getElem_mem hi)
    have hcc := hc.2 _ (List.getElem_mem (l := ch) (n := i) (by omega))
    have e1 := foldl_take (fun (f : Fr) (q : Int × Fr) => fplus f (low (q.1 * q.2.1) q.2.2)) (0, 1) hz
    have et : ftimes (pay[i], 1) (ch[i]'(by omega)) = term (pay[i], ch[i]'(by omega)) := by unfold ftimes term; rw [Int.one_mul]
    refine hb_set 2 (x_fnD (ok_Lplus T) (((pay.zip ch).take i).foldl (fun f q => fplus f (low (q.1 * q.2.1) q.2.2)) (0, 1), ftimes (pay[i], 1) (ch[i]'(by omega))) hr (a_cons (x_var 2) (a_cons (x_fnD (ok_Ltimes T) ((pay[i], 1), ch[i]'(by omega)) hr (a_cons (x_tup (a_cons (x_ixT (x_var 0) (x_var 3) (d := .int pay[i]) (by rw [atI_nat, List.getElem?_map, List.getElem?_eq_getElem hi]; rfl)) (a_cons x_int a_nil))) (a_cons (x_ixT (x_var 1) (x_var 3) (d := frD (ch[i]'(by omega))) (by rw [atI_nat, List.getElem?_map, List.getElem?_eq_getElem (by omega)]; rfl)) a_nil)) ⟨sz_int (Nat.lt_of_lt_of_le (pay_bd hn) (pow_le (by decide))) (by decide), sz_mono hcc (by decide)⟩) a_nil)) ⟨?_, ?_⟩) (hb_nil fun σ B' H' s' => ⟨(), trivial, ?_⟩) c_Lworth.nd
    · have ef : ((pay.zip ch).take i).foldl (fun f q => fplus f (low (q.1 * q.2.1) q.2.2)) (0, 1) = (((pay.zip ch).take i).map term).foldl fplus (0, 1) := by rw [List.foldl_map]; rfl
      show Sz 3900 (((pay.zip ch).take i).foldl (fun f q => fplus f (low (q.1 * q.2.1) q.2.2)) (0, 1))
      rw [ef]
      have z := fsum_sz (n := 320) (xs := ((pay.zip ch).take i).map term) (fun x hx => ?_) sz01
      · refine sz_mono z ?_
        have : (((pay.zip ch).take i).map term).length ≤ 6 := by rw [List.length_map, List.length_take]; omega
        have := Nat.mul_le_mul_right 321 this
        omega
      · obtain ⟨q, hq, rfl⟩ := List.mem_map.mp hx
        have hq := List.mem_of_mem_take hq
        exact term_sz (pay_bd (hp _ (List.of_mem_zip hq).1)) (hc.2 _ (List.of_mem_zip hq).2)
    · show Sz 3900 (ftimes (pay[i], 1) (ch[i]'(by omega)))
      rw [et]
      exact sz_mono (term_sz (pay_bd hn) hcc) (by decide)
    · rw [e1]
      have et2 : fplus (((pay.zip ch).take i).foldl (fun f q => fplus f (low (q.1 * q.2.1) q.2.2)) (0, 1)) (ftimes (pay[i], 1) (ch[i]'(by omega))) = fplus (((pay.zip ch).take i).foldl (fun f q => fplus f (low (q.1 * q.2.1) q.2.2)) (0, 1)) (low (pay[i] * (ch[i]'(by omega)).1) (ch[i]'(by omega)).2) := by rw [et]; rfl
      rw [← et2]
      exact s'.sub (sub_same (sub_same (sub_same (sub_none sub_nil))))
  · refine hb_ret (x_var 2) fun d e => ?_
    rw [e]
    show frD _ = frD (worth pay ch)
    unfold worth
    rw [List.take_of_length_le (by rw [hzl]; omega)]
theorem ok_Lpayoff (T : Fac K mg) : Ok P w K mg base "_law_payoff" 2 ["_law_jar_here", "_law_size", "_law_top"] (Pm K (fun a : Nat × Int => [.jar, .int (a.1 : Nat), .int a.2]) (fun a => a.1 ≤ 6 ∧ 0 ≤ a.2 ∧ a.2 ≤ 9) (fun a d => ∃ pay : List Int, d = .tup (pay.map D.int) ∧ pay.length = a.1 ∧ ∀ n ∈ pay, -a.2 ≤ n ∧ n ≤ a.2)) := by
  refine okD (f_Lpayoff T) (g_Lpayoff T) c_Lpayoff (fun _ => rfl) ?_
  rintro cdv Ar outer s E J B H ⟨k, t⟩ hr ⟨h6, h0, h9⟩
  have h6 : k ≤ 6 := h6
  have h0 : 0 ≤ t := h0
  have h9 : t ≤ 9 := h9
  refine hb_ret (x_tupleP (PL := fun ds => ∃ pay : List Int, ds = pay.map D.int ∧ pay.length = k ∧ ∀ n ∈ pay, -t ≤ n ∧ n ≤ t) (b_tuple T) (EvO.ev (lcP (α := Nat) (PL := fun ds => ∃ pay : List Int, ds = pay.map D.int ∧ pay.length = k ∧ ∀ n ∈ pay, -t ≤ n ∧ n ≤ t) (own := [("_law_k", 3)]) (sl := [3]) (fun (i : Nat) => D.int (i : Int)) (fun i Γ => Γ.set 3 (some (.int (i : Nat)))) (fun _ => true) (fun _ d => ∃ n : Int, d = .int n ∧ -t ≤ n ∧ n ≤ t) (i_range1 (n := (k : Nat)) (x_var 1) (by omega) (b_range T)) c_Lpayoff.nd (blk n_Lpayoff (defScope s_Lpayoff)) (by simp) (fun ds e => ⟨List.range k, e, by rw [List.length_range]; omega, fun i hi Y hY => ?_, fun ys hy => ?_⟩)) (fun ds h => ⟨ds, rfl, h⟩))) (fun d ⟨ds, e1, pay, e2, h1, h2⟩ => ⟨pay, by rw [e1, e2], h1, h2⟩)
  · obtain ⟨_, _, _, _, _, rfl⟩ := hY
    refine ⟨tg_name 3 c_Lpayoff.nd, ts_nil, fun _ => x_subP (PA := below (2 * t + 1)) (x_fn (ok_Ldip T) hr (by decide) (a_cons (x_var 0) (a_cons (x_add (x_mulS x_int (x_var 2) (.inl (by decide))) x_int) a_nil)) (fun ds e => ⟨2 * t + 1, e, ⟨by omega, by omega⟩, fun d h => h⟩)) (x_var 2) (fun x y ⟨n, e1, g1, g2⟩ e2 => ⟨n, t, e1, e2, n - t, rfl, by omega, by omega⟩)⟩
  · obtain ⟨bs, e1, e2, e3⟩ := made_all (c := D.int) (Q := fun n => -t ≤ n ∧ n ≤ t) (fun x y h => h) hy
    exact ⟨bs, e1, by rw [e2, List.length_range], e3⟩
end
end Z
end
section
set_option Elab.async false
set_option linter.all false
set_option maxRecDepth 100000
set_option maxHeartbeats 400000
namespace Z
open PySem PySem.Spec PyProof.Rows L2 RZ
theorem sum_set : ∀ (ps : List Int) (k : Nat) (m n : Int), ps[k]? = some m → (ps.set k (m + n)).sum = ps.sum + n
  | [], _, _, _, h => by simp at h
  | p :: ps, 0, m, n, h => by
    have : p = m := Option.some.inj h
    subst this
    simp only [List.set_cons_zero, List.sum_cons]
    omega
  | p :: ps, k + 1, m, n, h => by
    have := sum_set ps k m n h
    simp only [List.set_cons_succ, List.sum_cons]
    omega
theorem sum_bd : ∀ (ps : List Int), (∀ p ∈ ps, 0 ≤ p ∧ p ≤ 5) → 0 ≤ ps.sum ∧ ps.sum ≤ 5 * ps.length
  | [], _ => by simp
  | p :: ps, h => by
    have h1 := h p List.mem_cons_self
    have h2 := sum_bd ps fun q hq => h q (List.mem_cons_of_mem _ hq)
    rw [List.sum_cons, List.length_cons]
    omega
section
variable {X : Cx} {J : Jx} {Γ : Gam} {a b : Expr} {pos : Pos}
theorem t_eqPI {PA : D → Prop} {j : Int} (ha : Ev X J Γ a PA) (hP : ∀ d, PA d → ∃ n : Int, d = .int n) (hb : Ev X J Γ b (· = .int j)) : EvT X J Γ (.Compare a [.Eq] [b] pos) (fun _ => True) := fun σ B H w f Q q =>
  ofT (pt_cmpR op_eq wpE.pe wpE.pe (nomark _)) (two (ta := wpE X a) (tb := wpE X b) ha hb w f fun x y v u B' H' px py s dx dy => by
    obtain ⟨n, rfl⟩ := hP x px
    subst py
    rw [den_int.mp dx, den_int.mp dy]
    exact ⟨rfl, _, rfl, q _ B' H' trivial s⟩)
end
section
variable {P : Program} {w : World} {K : PySem.W.Frag} {mg : Str → Option Value} {base : Heap}
theorem ok_Lchance (T : Fac K mg) : Ok P w K mg base "_law_chance" 3 ["_law_jar_here", "_law_size"] (Pm K (fun a : Nat => [.jar, .int (a : Nat)]) (fun a => a = 2 ∨ a = 3) (fun a d => ∃ ch ps, d = .tup (ch.map frD) ∧ Drawn a ch ps)) := by
  refine okD (f_Lchance T) (g_Lchance T) c_Lchance (fun _ => rfl) ?_
  intro cdv Ar outer s E J B H k hr hk
  refine hb_lc 2 (α := Nat) (PL := fun ds => ∃ ps : List Int, ds = ps.map D.int ∧ ps.length = k ∧ ∀ n ∈ ps, 0 ≤ n ∧ n ≤ 5) (own := [("_law_k", 4)]) (sl := [4]) (O' := []) (fun (i : Nat) => D.int (i : Int)) (fun i Γ => Γ.set 4 (some (.int (i : Nat)))) (fun _ => true) (fun _ d => ∃ n : Int, d = .int n ∧ 0 ≤ n ∧ n ≤ 5) (i_range1 (n := (k : Nat)) (x_var 1) (by omega) (b_range T)) c_Lchance.nd (blk n_Lchance (defScope s_Lchance)) (by simp) (fun ds e => ⟨List.range k, e, by rw [List.length_range]; omega, fun i hi Y hY => ?_, fun ys hy => ?_⟩) (fun ds hds => ?_) (fun _ h => by cases h) (by show 2 < 6; decide)
  · obtain ⟨_, _, _, _, _, rfl⟩ := hY
    exact ⟨tg_name 4 c_Lchance.nd, ts_nil, fun _ => x_fn (ok_Ldip T) hr (by decide) (a_cons (x_var 0) (a_cons x_int a_nil)) (fun ds e => ⟨6, e, ⟨by decide, by decide⟩, fun d ⟨n, e, h1, h2⟩ => ⟨n, e, h1, by omega⟩⟩)⟩
  · obtain ⟨bs, e1, e2, e3⟩ := made_all (c := D.int) (Q := fun n => 0 ≤ n ∧ n ≤ 5) (fun x y h => h) hy
    exact ⟨bs, e1, by rw [e2, List.length_range], e3⟩
  obtain ⟨ps, rfl, hl, hp⟩ := hds
  refine hb_augix (k := 0) 2 (PK := below (k : Nat)) (PE := fun d => ∃ n : Int, d = .int n ∧ 1 ≤ n ∧ n ≤ 3) (x_fn (ok_Ldip T) hr (by decide) (a_cons (x_var 0) (a_cons (x_var 1) a_nil)) (fun ds e => ⟨(k : Nat), e, ⟨by omega, by omega⟩, fun d h => h⟩)) (fun d ⟨n, e, h1, h2⟩ => ⟨n, e, h1, by omega⟩) (x_addP (PA := (· = .int 1)) (PB := below 3) x_int (x_fn (ok_Ldip T) hr (by decide) (a_cons (x_var 0) (a_cons x_int a_nil)) (fun ds e => ⟨3, e, ⟨by decide, by decide⟩, fun d h => h⟩)) (fun x y e1 ⟨n, e2, h1, h2⟩ => ⟨1, n, e1, e2, 1 + n, rfl, by omega, by omega⟩)) (fun d ⟨n, e, _⟩ => ⟨n, e⟩) (fun i n m hi hn h0 hm => ?_)
  obtain ⟨n', e1, h1, h2⟩ := hn
  have e1 : n = n' := by injection e1
  subst e1
  have hm2 := hp m (List.mem_of_getElem? hm)
  have hsum := sum_set ps i.toNat m n hm
  have hbd := sum_bd ps hp
  have hD : ∀ ch, ch = (ps.set i.toNat (m + n)).map (fun p => low p (ps.set i.toNat (m + n)).sum) → Drawn k ch (ps.set i.toNat (m + n)) := fun ch e => by
    refine ⟨by rw [List.length_set]; exact hl, fun p hp' => ?_, by omega, by omega, e⟩
    rcases List.mem_or_eq_of_mem_set hp' with h | h
    · have := hp p h
      omega
    · omega
  generalize ps.set i.toNat (m + n) = rs at *
  have hrl : rs.length = k := (hD _ rfl).len
  refine hb_frz ?_
  refine hb_set 3 (x_sum (b_sum T) (x_var 2)) ?_ c_Lchance.nd
  refine hb_ret (x_tuple (b_tuple T) (EvO.lst (EvO.is (o_lc [("_law_each", 5)] [5] (xs := rs) D.int (fun p Γ => Γ.set 5 (some (.int p))) (fun p => frD (low p rs.sum)) (i_list (x_var 2)) c_Lchance.nd (blk n_Lchance (defScope s_Lchance)) (by omega) ?_) (ds' := (rs.map fun p => low p rs.sum).map frD) (by rw [List.map_map]; rfl)))) (fun d e => ⟨_, rs, e, hD _ rfl⟩)
  rintro p hp' Y ⟨_, _, _, _, _, rfl⟩
  have h8 := (hD _ rfl).pt p hp'
  have hpos := (hD _ rfl).pos
  have hle := (hD _ rfl).le
  exact ⟨tg_name 5 c_Lchance.nd, x_fnD (ok_Llow T) (p, rs.sum) hr (a_cons (x_var 5) (a_cons (x_var 3) a_nil)) ⟨Nat.lt_of_lt_of_le (show p.natAbs < 2 ^ 5 by omega) (pow_le (by decide)), hpos, Nat.lt_of_lt_of_le (show rs.sum.natAbs < 2 ^ 5 by omega) (pow_le (by decide))⟩⟩
theorem ok_Lquotes (T : Fac K mg) : Ok P w K mg base "_law_quotes" 5 ["_law_jar_here", "_law_size", "_law_many", "_law_slack"] (Pm K (fun a : Nat × Nat × Int => [.jar, .int (a.1 : Nat), .int (a.2.1 : Nat), .int a.2.2]) (fun a => (a.1 = 2 ∨ a.1 = 3) ∧ a.2.1 ≤ 4 ∧ a.2.2 < 1000) (fun a d => ∃ qs : List Qt, d = .tup (qs.map qD) ∧ qs.length = a.2.1 ∧ ∀ q ∈ qs, QtOk a.1 q)) := by
  refine okD (f_Lquotes T) (g_Lquotes T) c_Lquotes (fun _ => rfl) ?_
  rintro cdv Ar outer s E J B H ⟨k, many, slack⟩ hr ⟨hk, hm, hs⟩
  have hk : k = 2 ∨ k = 3 := hk
  have hm : many ≤ 4 := hm
  have hs : slack < 1000 := hs
  refine hb_parO 4 5 (P := fun d => ∃ ch ps, d = .tup (ch.map frD) ∧ Drawn k ch ps) (x_fn (ok_Lchance T) hr (by decide) (a_cons (x_var 0) (a_cons (x_var 1) a_nil)) (fun ds e => ⟨k, e, hk, fun d h => h⟩)) (o_lst a_nil) (fun d ds hd hds => ?_) c_Lquotes.nd (by show 5 < 11; decide)
  obtain ⟨ch, ps, rfl, hD⟩ := hd
  subst hds
  have hW := hD.pos
  have hle := hD.le
  have hchl : ch.length = k := by rw [hD.eq, List.length_map]; exact hD.len
  have hcs : ChSz ch := ⟨by omega, fun c hc => by
    rw [hD.eq] at hc
    obtain ⟨p, hp, rfl⟩ := List.mem_map.mp hc
    have := hD.pt p hp
    exact low_sz ⟨Nat.lt_of_lt_of_le (show p.natAbs < 2 ^ 5 by omega) (pow_le (by decide)), hW, Nat.lt_of_lt_of_le (show ps.sum.natAbs < 2 ^ 5 by omega) (pow_le (by decide))⟩⟩
  refine hb_forN (α := List Qt) 6 (n := (many : Nat)) (fun i qs => qs.length = i ∧ ∀ q ∈ qs, QtOk k q) (fun _ _ => [some .jar, some (.int (k : Nat)), some (.int (many : Nat)), some (.int slack), some (.tup (ch.map frD)), none, none, none, none, none, none]) (fun _ qs => [(5, qs.map qD)]) [] (x_var 2) (by omega) (b_range T)
    ⟨rfl, fun _ h => by cases h⟩ (fun _ _ _ s => s) (fun _ _ q hq => by simp at hq; subst hq; simp) (fun i qs hlt ⟨hql, hq⟩ => ?_) (fun qs ⟨hql, hq⟩ => ?_) PassesOwn.never c_Lquotes.nd
  · refine hb_asg 7 (O' := [(5, qs.map qD)]) (P := fun d => ∃ pay : List Int, d = .tup (pay.map D.int) ∧ pay.length = k ∧ ∀ n ∈ pay, -5 ≤ n ∧ n ≤ 5) (x_fn (PS := fun ds => ∃ t : Int, ds = [.jar, .int (k : Nat), .int t] ∧ 0 ≤ t ∧ t ≤ 5) (ok_Lpayoff T) hr (by decide) (a_consP (PA := (· = .jar)) (PS := fun ds => ∃ t : Int, ds = [.int (k : Nat), .int t] ∧ 0 ≤ t ∧ t ≤ 5) (x_var 0) (a_consP (PA := (· = .int (k : Nat))) (PS := fun ds => ∃ t : Int, ds = [.int t] ∧ 0 ≤ t ∧ t ≤ 5) (x_var 1) (a_consP (PA := fun d => ∃ t : Int, d = .int t ∧ 0 ≤ t ∧ t ≤ 5) (PS := (· = [])) (x_fn (ok_Lone_of T) hr (by decide) (a_cons (x_var 0) (a_cons (EvO.lst (o_lst (a_cons x_int (a_cons x_int (a_cons x_int (a_cons x_int a_nil)))))) a_nil)) (fun ds e => ⟨[1, 1, 2, 5], e, ⟨by decide, by decide⟩, fun d ⟨n, h1, h2⟩ => ⟨n, h2, by simp at h1; omega, by simp at h1; omega⟩⟩)) a_nil (fun d ds ⟨t, e, h⟩ e2 => ⟨t, by rw [e, e2], h⟩)) (fun d ds e ⟨t, e2, h⟩ => ⟨t, by rw [e, e2], h⟩)) (fun d ds e ⟨t, e2, h⟩ => ⟨t, by rw [e, e2], h⟩)) (fun ds ⟨t, e, h0, h5⟩ => ⟨(k, t), e, ⟨by omega, h0, by omega⟩, fun d ⟨pay, e, hl, hb⟩ => ⟨pay, e, hl, fun n hn => by have := hb n hn; omega⟩⟩)) ?_ (fun q hq => ⟨hq, by simp at hq; subst hq; simp⟩) c_Lquotes.nd
    rintro _ ⟨pay, rfl, hpl, hpb⟩
    have hpb2 : ∀ n ∈ pay, -1000 ≤ n ∧ n ≤ 1000 := fun n hn => by have := hpb n hn; omega
    refine hb_unp (P := (· = frD (worth pay ch))) (sl := [8, 9]) (fun _ Γ => (Γ.set 8 (some (.int (worth pay ch).1))).set 9 (some (.int (worth pay ch).2))) (x_fnD (ok_Lworth T) (pay, ch) hr (a_cons (x_var 7) (a_cons (x_var 4) a_nil)) ⟨by show pay.length = ch.length; omega, hpb2, hcs⟩) (fun d e => by subst e; exact tg_pair 8 9 c_Lquotes.nd) (fun d _ => ?_)
    have hws := worth_sz hpb2 hcs
    refine hb_asg 10 (O' := [(5, qs.map qD)]) (P := fun d => ∃ l : Int, d = .int l ∧ -3 ≤ l ∧ l ≤ 5) (x_fn (ok_Lone_of T) hr (by decide) (a_cons (x_var 0) (a_cons (EvO.lst (o_lst (a_cons x_int (a_cons x_int (a_cons x_int (a_cons x_int (a_cons x_int a_nil))))))) a_nil)) (fun ds e => ⟨[0, 0, 1, 2, 5], e, ⟨by decide, by decide⟩, fun d ⟨n, h1, h2⟩ => ⟨n, h2, by simp at h1; omega, by simp at h1; omega⟩⟩)) ?_ (fun q hq => ⟨hq, by simp at hq; subst hq; simp⟩) c_Lquotes.nd
    rintro _ ⟨l0, rfl, hl0⟩
    refine hb_cons (M := fun σ B' H' => ∃ l : Int, (-3 ≤ l ∧ l ≤ 5) ∧ S K J B H [some .jar, some (.int (k : Nat)), some (.int (many : Nat)), some (.int slack), some (.tup (ch.map frD)), none, none, some (.tup (pay.map D.int)), some (.int (worth pay ch).1), some (.int (worth pay ch).2), some (.int l)] [(5, qs.map qD)] σ B' H') (hs_if (PT := fun _ => True) (t_and (PA := fun c => c = decide (0 < slack)) (t_gt (x_var 3) x_int) (fun hc => t_eqPI (PA := below slack) (x_fn (ok_Ldip T) hr (by decide) (a_cons (x_var 0) (a_cons (x_var 3) a_nil)) (fun ds e => ⟨slack, e, ⟨by simpa using hc.symm, hs⟩, fun d h => h⟩)) (fun d ⟨n, e, _⟩ => ⟨n, e⟩) x_int) (fun _ => trivial)) (fun _ => ?_) (fun _ => hb_nil fun σ B' H' s' => ⟨l0, hl0, s'.sub (sub_same (sub_same (sub_same (sub_same (sub_same (sub_none (sub_none (sub_same (sub_same (sub_same (sub_same sub_nil))))))))))) (by simp)⟩)) (.ex fun l => .and fun hl => ?_)
    · refine hb_asg 10 (O' := [(5, qs.map qD)]) (P := fun d => ∃ l : Int, d = .int l ∧ -3 ≤ l ∧ l ≤ 5) (x_subP (PA := (· = .int (0 - 1))) (PB := below 3) (x_sub x_int x_int) (x_fn (ok_Ldip T) hr (by decide) (a_cons (x_var 0) (a_cons x_int a_nil)) (fun ds e => ⟨3, e, ⟨by decide, by decide⟩, fun d h => h⟩)) (fun x y e1 ⟨n, e2, h1, h2⟩ => ⟨0 - 1, n, e1, e2, 0 - 1 - n, rfl, by omega, by omega⟩)) ?_ (fun q hq => ⟨hq, by simp at hq; subst hq; simp⟩) c_Lquotes.nd
      rintro _ ⟨l, rfl, hl⟩
      exact hb_nil fun σ B' H' s' => ⟨l, hl, s'.sub (sub_same (sub_same (sub_same (sub_same (sub_same (sub_none (sub_none (sub_same (sub_same (sub_same (sub_same sub_nil))))))))))) (by simp)⟩
    · have hpr := price_ok hD hpb hl
      have hmul : (l * (worth pay ch).2).natAbs < 2 ^ (3 + 2000) := bd_mul (show l.natAbs < 2 ^ 3 by omega) hws.2.2
      refine hb_app 5 (P := (· = qD (pay, low ((worth pay ch).1 * 4 - l * (worth pay ch).2) ((worth pay ch).2 * 4)))) (x_tup (a_cons (x_var 7) (a_cons (x_fnD (ok_Llow T) ((worth pay ch).1 * 4 - l * (worth pay ch).2, (worth pay ch).2 * 4) hr (a_cons (x_sub (x_mulS (x_var 8) x_int (.inr (by decide))) (x_mulS (x_var 10) (x_var 9) (.inl (by omega)))) (a_cons (x_mulS (x_var 9) x_int (.inr (by decide))) a_nil)) ?_) a_nil))) (fun d e => hb_nil fun σ B' H' s' => ⟨qs ++ [(pay, low ((worth pay ch).1 * 4 - l * (worth pay ch).2) ((worth pay ch).2 * 4))], ⟨by rw [List.length_append]; simp [hql], fun q hq' => ?_⟩, ?_⟩) (by rw [List.length_map]; omega)
      · have b1 : ((worth pay ch).1 * 4).natAbs < 2 ^ (2000 + 3) := bd_mul hws.1 (by decide)
        refine ⟨bd_mono (bd_sub b1 (bd_mono hmul (by decide))) (by decide), ?_, bd_mono (bd_mul hws.2.2 (show (4 : Int).natAbs < 2 ^ 3 by decide)) (by decide)⟩
        have := hws.2.1
        show 0 < (worth pay ch).2 * 4
        omega
      · rcases List.mem_append.mp hq' with h | h
        · exact hq q h
        · rw [List.mem_singleton.mp h]
          exact ⟨hpl, hpb2, hpr⟩
      · subst e
        rw [List.map_append]
        exact s'.sub (sub_same (sub_same (sub_same (sub_same (sub_same (sub_none (sub_none (sub_none (sub_none (sub_none (sub_none sub_nil))))))))))) (by simp)
  · exact hb_frz (hb_ret (x_tuple (b_tuple T) (x_var 5)) fun d e => ⟨qs, e, by rw [hql]; show ((many : Nat) : Int).toNat = many; omega, hq⟩)
theorem ok_Lbad (T : Fac K mg) : Ok P w K mg base "_law_bad" 6 ["_law_jar_here", "_law_size", "_law_many"] (Pm K (fun a : Nat => [.jar, .int (a : Nat), .int 3]) (fun a => a = 2 ∨ a = 3) (fun a d => ∃ qs : List Qt, d = .tup (qs.map qD) ∧ (qs.length = 2 ∨ qs.length = 3) ∧ ∀ q ∈ qs, QtOk a q)) := by
  refine okD (f_Lbad T) (g_Lbad T) c_Lbad (fun _ => rfl) ?_
  intro cdv Ar outer s E J B H k hr hk
  refine hb_ret (x_fn (PS := fun ds => ∃ (m : Nat) (sl : Int), ds = [.jar, .int (k : Nat), .int (m : Nat), .int sl] ∧ (m = 2 ∨ m = 3) ∧ sl < 1000) (ok_Lquotes T) hr (by decide) (a_consP (PA := (· = .jar)) (PS := fun ds => ∃ (m : Nat) (sl : Int), ds = [.int (k : Nat), .int (m : Nat), .int sl] ∧ (m = 2 ∨ m = 3) ∧ sl < 1000) (x_var 0) (a_consP (PA := (· = .int (k : Nat))) (PS := fun ds => ∃ (m : Nat) (sl : Int), ds = [.int (m : Nat), .int sl] ∧ (m = 2 ∨ m = 3) ∧ sl < 1000) (x_var 1) (a_consP (PA := fun d => ∃ m : Nat, d = .int (m : Nat) ∧ (m = 2 ∨ m = 3)) (PS := fun ds => ∃ sl : Int, ds = [.int sl] ∧ sl < 1000)
    (x_addP (PA := (· = .int 2)) (PB := below 2) x_int (x_fn (ok_Ldip T) hr (by decide) (a_cons (x_var 0) (a_cons (x_sub (x_var 2) x_int) a_nil)) (fun ds e => ⟨2, e, ⟨by decide, by decide⟩, fun d h => h⟩)) (fun x y e1 ⟨n, e2, h1, h2⟩ => ⟨2, n, e1, e2, (2 + n).toNat, by rw [show (((2 + n).toNat : Nat) : Int) = 2 + n by omega], by omega⟩))
    (a_consP (PA := fun d => ∃ sl : Int, d = .int sl ∧ sl < 1000) (PS := (· = [])) (x_fn (ok_Lone_of T) hr (by decide) (a_cons (x_var 0) (a_cons (EvO.lst (o_lst (a_cons x_int (a_cons x_int (a_cons x_int (a_cons x_int a_nil)))))) a_nil)) (fun ds e => ⟨[0, 1, 1, 2], e, ⟨by decide, by decide⟩, fun d ⟨n, h1, h2⟩ => ⟨n, h2, by simp at h1; omega⟩⟩)) a_nil (fun d ds ⟨t, e, h⟩ e2 => ⟨t, by rw [e, e2], h⟩)) (fun d ds ⟨m, e, h⟩ ⟨sl, e2, h2⟩ => ⟨m, sl, by rw [e, e2], h, h2⟩)) (fun d ds e ⟨m, sl, e2, h⟩ => ⟨m, sl, by rw [e, e2], h⟩)) (fun d ds e ⟨m, sl, e2, h⟩ => ⟨m, sl, by rw [e, e2], h⟩)) (fun ds ⟨m, sl, e, h, h2⟩ => ⟨(k, m, sl), e, ⟨hk, by show m ≤ 4; omega, h2⟩, fun d ⟨qs, e1, e2, e3⟩ => ⟨qs, e1, by rw [e2]; exact h, e3⟩⟩)) fun d h => h
end
end Z
end
section
set_option Elab.async false
set_option linter.all false
set_option maxRecDepth 100000
set_option maxHeartbeats 400000
namespace Z
open PySem PySem.Spec PyProof.Rows L2 RZ
/-! ### plain -/
def unitRow (k j : Nat) : List Int := (List.range k).map fun i => if i = j then 1 else 0
def lawRows (k : Nat) (qs : List Qt) : List (List Int) := (List.range k).map (unitRow k) ++ qs.map fun q => q.1.map fun n => n * q.2.2 - q.2.1
abbrev rowD (r : List Int) : D := .lst (r.map D.int)
abbrev chD (c : List Fr) : D := .tup (c.map frD)
def fahead (a b : List Fr) : Bool := match (List.range a.length).find? fun k => decide (a.getD k (0, 0) ≠ b.getD k (0, 0)) with
  | none => false
  | some k => fless (a.getD k (0, 0)) (b.getD k (0, 0))
section
variable {P : Program} {w : World} {K : PySem.W.Frag} {mg : Str → Option Value} {base : Heap}
theorem ok_Lrows (T : Fac K mg) : Ok P w K mg base "_law_rows" 1 ["_law_size", "_law_quotes_here"] (Pm K (fun a : Nat × List Qt => [.int (a.1 : Nat), .tup (a.2.map qD)]) (fun a => (a.1 = 2 ∨ a.1 = 3) ∧ a.2.length ≤ 8 ∧ ∀ q ∈ a.2, QtOk a.1 q) (fun a d => d = .lst ((lawRows a.1 a.2).map rowD))) := by
  refine okD (f_Lrows T) (g_Lrows T) c_Lrows (fun _ => rfl) ?_
  rintro cdv Ar outer s E J B H ⟨k, qs⟩ hr ⟨hk, h8, hq⟩
  have hk : k = 2 ∨ k = 3 := hk
  have h8 : qs.length ≤ 8 := h8
  refine hb_lcf 2 [("_law_j", 5)] [5] (xs := List.range k) (fun (i : Nat) => D.int (i : Int)) (fun i Γ => Γ.set 5 (some (.int (i : Nat)))) (fun j => rowD (unitRow k j)) (i_range1 (n := (k : Nat)) (x_var 0) (by omega) (b_range T)) c_Lrows.nd (blk n_Lrows (defScope s_Lrows)) (by rw [List.length_range]; omega) ?_ (O' := []) ?_ (fun _ h => by cases h) (by show 2 < 8; decide)
  · rintro j hj Y ⟨_, _, _, _, _, rfl⟩
    refine ⟨tg_name 5 c_Lrows.nd, EvO.lst (EvO.is (o_lc [("_law_k", 6)] [6] (xs := List.range k) (fun (i : Nat) => D.int (i : Int)) (fun i Γ => Γ.set 6 (some (.int (i : Nat)))) (fun i => D.int (if i = j then 1 else 0)) (i_range1 (n := (k : Nat)) (x_var 0) (by omega) (b_range T)) c_Lrows.nd ⟨rfl, by decide +kernel, fun p hp => by (have : p = (("_law_k" : Str), 6) := by simpa using hp); subst this; rfl, fun y hy e => ?_, fun y hy e => ?_⟩ (by rw [List.length_range]; omega) ?_) (by unfold unitRow; rw [List.map_map]; rfl))⟩
    · have : y.1 = ("_law_j" : Str) := by
        revert y
        decide +kernel
      rw [this]
      first | exact .inl rfl | exact .inr rfl
    · have : y.1 = ("_law_k" : Str) ∨ y.1 = (".0" : Str) := by
        revert y
        decide +kernel
      rcases this with e2 | e2 <;> rw [e2]
      · exact .inl (by decide)
      · exact .inr (show (".0" : Str) ∉ n_Lrows by decide +kernel)
    · rintro i hi Z ⟨_, _, _, _, _, rfl⟩
      refine ⟨tg_name 6 c_Lrows.nd, Ev.is (x_intB (b_int T) (x_eq (x_var 6) (x_var 5))) ?_⟩
      show D.int (if decide (V.int (i : Nat) = V.int (j : Nat)) = true then 1 else 0) = D.int (if i = j then 1 else 0)
      rw [dec_vint]
      by_cases h : i = j
      · simp [h]
      · have h2 : ¬ ((i : Int) = (j : Int)) := by omega
        simp [h, h2]
  refine hb_forX (α := Unit) (xs := qs) [3, 4] qD (fun q Γ => (Γ.set 3 (some (.tup (q.1.map D.int)))).set 4 (some (frD q.2))) (fun _ _ => True) (fun _ _ => [some (.int (k : Nat)), some (.tup (qs.map qD)), none, none, none, none, none, none]) (fun i _ => [(2, (List.range k).map (fun j => rowD (unitRow k j)) ++ (qs.take i).map fun q => rowD (q.1.map fun n => n * q.2.2 - q.2.1))]) () (i_tup (x_var 1)) trivial (fun _ _ _ s => by
      have e : (List.range k).map (fun j => rowD (unitRow k j)) ++ (qs.take 0).map (fun q => rowD (q.1.map fun n => n * q.2.2 - q.2.1)) = (List.range k).map (fun j => rowD (unitRow k j)) := by simp
      rw [e]; exact s) (fun q _ => tg_pair 3 4 c_Lrows.nd) (fun _ _ q h => by simp at h; subst h; simp) (fun i q _ hqi _ => ?_) (fun _ _ => ?_) PassesOwn.never
  · have hQ := hq q (List.mem_of_getElem? hqi)
    have hl := hQ.len
    refine hb_app 2 (P := (· = rowD (q.1.map fun n => n * q.2.2 - q.2.1))) (EvO.lst (EvO.is (o_lc [("_law_number_here", 7)] [7] (xs := q.1) D.int (fun n Γ => Γ.set 7 (some (.int n))) (fun n => D.int (n * q.2.2 - q.2.1)) (i_tup (x_var 3)) c_Lrows.nd (blk n_Lrows (defScope s_Lrows)) (by omega) ?_) (by rw [List.map_map]; rfl))) (fun d e => hb_nil fun σ B' H' s' => ⟨(), trivial, ?_⟩) (by rw [List.length_append, List.length_map, List.length_map, List.length_range, List.length_take]; omega)
    · rintro n hn Y ⟨_, _, _, _, _, rfl⟩
      have h1 := pay_bd (hQ.pay n hn)
      exact ⟨tg_name 7 c_Lrows.nd, x_sub (x_mul (x_var 7) (x_ixT (x_var 4) x_int rfl) (wide_mul h1 hQ.pr.sz2.2.2 (by decide) (by decide) (by decide))) (x_ixT (x_var 4) x_int rfl)⟩
    · subst e
      rw [List.take_add_one, hqi, List.map_append, ← List.append_assoc]
      exact s'.sub (sub_same (sub_same (sub_none (sub_none (sub_none (sub_none (sub_none (sub_none sub_nil)))))))) (by simp)
  · refine hb_frz (hb_ret (x_var 2) fun d e => ?_)
    rw [e, List.take_length]
    show D.lst _ = D.lst ((lawRows k qs).map rowD)
    unfold lawRows
    rw [List.map_append, List.map_map, List.map_map]
    rfl
theorem ok_Lahead (T : Fac K mg) : Ok P w K mg base "_law_ahead" 2 ["_law_one", "_law_two"] (Pm K (fun a : List Fr × List Fr => [chD a.1, chD a.2]) (fun a => a.1.length = a.2.length ∧ a.1.length ≤ 6 ∧ (∀ c ∈ a.1, Sz 10000 c) ∧ ∀ c ∈ a.2, Sz 10000 c) (fun a d => d = .bl (fahead a.1 a.2))) := by
  refine okD (f_Lahead T) (g_Lahead T) c_Lahead (fun _ => rfl) ?_
  rintro cdv Ar outer s E J B H ⟨x, y⟩ hr ⟨hl, h6, hx, hy⟩
  have hl : x.length = y.length := hl
  have h6 : x.length ≤ 6 := h6
  have gx : ∀ i, i < x.length → x[i]? = some (x.getD i (0, 0)) := fun i hi => by rw [List.getD_eq_getElem?_getD, List.getElem?_eq_getElem hi]; rfl
  have gy : ∀ i, i < x.length → y[i]? = some (y.getD i (0, 0)) := fun i hi => by rw [List.getD_eq_getElem?_getD, List.getElem?_eq_getElem (by omega)]; rfl
  refine hb_forN (α := Unit) 2 (n := (x.length : Nat)) (fun i _ => ∀ j, j < i → x.getD j (0, 0) = y.getD j (0, 0)) (fun _ _ => [some (chD x), some (chD y), none]) (fun _ _ => []) () ((x_lenT (b_len T) (x_var 0)).is (by rw [List.length_map])) (by omega) (b_range T)
    (fun j hj => absurd hj (Nat.not_lt_zero _)) (fun _ _ _ s => s) (fun _ _ q hq => by cases hq) (fun i _ hlt hP => ?_) (fun _ hP => ?_) PassesOwn.never c_Lahead.nd
  · have hi : i < x.length := by omega
    have ex : Ev (bx P w K mg base n_Lahead "_law_ahead" s_Lahead (He.ga K "_law_ahead") cdv Ar outer s H E) J [some (chD x), some (chD y), some (.int (i : Nat))] (.Constant .none 0 ⟨0, 0, 0, 0⟩) (· = .non) := x_non
    refine hb_ifR (t_neD (r := decide (x.getD i (0, 0) = y.getD i (0, 0))) hr (x_ixT (x_var 0) (x_var 2) (d := frD (x.getD i (0, 0))) (by rw [atI_nat, List.getElem?_map, gx i hi]; rfl)) (x_ixT (x_var 1) (x_var 2) (d := frD (y.getD i (0, 0))) (by rw [atI_nat, List.getElem?_map, gy i hi]; rfl)) (by simp [pl, pls]) (by simp [pl, pls]) (by simp [dpt, dpts]) (by simp [dpt, dpts]) (by rw [decide_eq_true_iff]; exact frD_inj.symm)) (fun hc => ?_) (fun hc => hb_nil fun σ B' H' s' => ⟨(), fun j hj => ?_, s'.sub (sub_same (sub_same (sub_none sub_nil)))⟩)
    · refine hb_ret (x_fnD (ok_Lless T) (x.getD i (0, 0), y.getD i (0, 0)) hr (a_cons (x_ixT (x_var 0) (x_var 2) (by rw [atI_nat, List.getElem?_map, gx i hi]; rfl)) (a_cons (x_ixT (x_var 1) (x_var 2) (by rw [atI_nat, List.getElem?_map, gy i hi]; rfl)) a_nil)) ⟨hx _ (List.mem_of_getElem? (gx i hi)), hy _ (List.mem_of_getElem? (gy i hi))⟩) fun d e => ?_
      rw [e]
      have hne : x.getD i (0, 0) ≠ y.getD i (0, 0) := by simpa using hc.symm
      have : (List.range x.length).find? (fun k => decide (x.getD k (0, 0) ≠ y.getD k (0, 0))) = some i := by
        rw [List.find?_range_eq_some]
        exact ⟨decide_eq_true hne, by simpa using hi, fun j hj => by simpa using hP j hj⟩
      show D.bl _ = D.bl (fahead x y)
      unfold fahead
      rw [this]
    · by_cases e : j = i
      · subst e
        simpa using hc.symm
      · exact hP j (by omega)
  · refine hb_ret x_bl fun d e => ?_
    have : (List.range x.length).find? (fun k => decide (x.getD k (0, 0) ≠ y.getD k (0, 0))) = none := by
      rw [List.find?_eq_none]
      intro j hj
      have := hP j (by simpa using hj)
      simpa using this
    rw [e]
    show D.bl _ = D.bl (fahead x y)
    unfold fahead
    rw [this]
end
end Z
end
section
set_option Elab.async false
set_option linter.all false
set_option maxRecDepth 100000
set_option maxHeartbeats 400000
namespace Z
open PySem PySem.Spec PyProof.Rows L2 RZ
/-! ### plain -/
def inOrd (xs : List (List Fr)) : List (List Fr) := xs.foldl (fun f e => f.take (f.filter fun o => fahead o e).length ++ [e] ++ f.drop (f.filter fun o => fahead o e).length) []
theorem inOrd_step (f : List (List Fr)) (e : List Fr) (n : Nat) : ∀ x, x ∈ f.take n ++ [e] ++ f.drop n ↔ x ∈ f ∨ x = e := fun x => by
  have : x ∈ f ↔ x ∈ f.take n ∨ x ∈ f.drop n := by rw [← List.mem_append, List.take_append_drop]
  rw [List.mem_append, List.mem_append, List.mem_singleton, this]
  constructor
  · rintro ((h | h) | h)
    · exact .inl (.inl h)
    · exact .inr h
    · exact .inl (.inr h)
  · rintro ((h | h) | h)
    · exact .inl (.inl h)
    · exact .inr h
    · exact .inl (.inr h)
theorem inOrd_mem (xs : List (List Fr)) (x : List Fr) : x ∈ inOrd xs ↔ x ∈ xs := by
  unfold inOrd
  have go : ∀ (l f : List (List Fr)), x ∈ l.foldl (fun f e => f.take (f.filter fun o => fahead o e).length ++ [e] ++ f.drop (f.filter fun o => fahead o e).length) f ↔ x ∈ f ∨ x ∈ l := by
    intro l
    induction l with
    | nil => intro f; simp
    | cons e l ih =>
      intro f
      rw [List.foldl_cons, ih, inOrd_step, List.mem_cons]
      constructor
      · rintro ((h | h) | h)
        · exact .inl h
        · exact .inr (.inl h)
        · exact .inr (.inr h)
      · rintro (h | h | h)
        · exact .inl (.inl h)
        · exact .inl (.inr h)
        · exact .inr h
  simpa using go xs []
theorem inOrd_len (xs : List (List Fr)) : (inOrd xs).length = xs.length := by
  unfold inOrd
  have go : ∀ (l f : List (List Fr)), (l.foldl (fun f e => f.take (f.filter fun o => fahead o e).length ++ [e] ++ f.drop (f.filter fun o => fahead o e).length) f).length = f.length + l.length := by
    intro l
    induction l with
    | nil => intro f; simp
    | cons e l ih =>
      intro f
      have h := List.length_filter_le (fun o => fahead o e) f
      rw [List.foldl_cons, ih, List.length_append, List.length_append, List.length_take, List.length_drop, List.length_cons, List.length_cons, List.length_nil]
      omega
  simpa using go xs []
/-- the determinant as the law has it -/
def detN : Nat → List (List Int) → Int
  | 0, _ => 1
  | n + 1, t => ((List.range (n + 1)).foldl (fun (s : Int × Int) k => (if (t.headD []).getD k 0 ≠ 0 then s.1 + s.2 * (t.headD []).getD k 0 * detN n (t.tail.map fun r => r.take k ++ r.drop (k + 1)) else s.1, 0 - s.2)) (0, 1)).1
structure Sq (n : Nat) (t : List (List Int)) : Prop where
  len : t.length = n
  row : ∀ r ∈ t, r.length = n ∧ ∀ x ∈ r, x.natAbs < 2 ^ 60
theorem Sq.sub {n : Nat} {t : List (List Int)} (h : Sq (n + 1) t) (k : Nat) (hk : k < n + 1) : Sq n (t.tail.map fun r => r.take k ++ r.drop (k + 1)) := by
  refine ⟨by rw [List.length_map, List.length_tail, h.len]; omega, fun r hr => ?_⟩
  obtain ⟨r', hr', rfl⟩ := List.mem_map.mp hr
  obtain ⟨h1, h2⟩ := h.row r' (List.mem_of_mem_tail hr')
  refine ⟨by rw [List.length_append, List.length_take, List.length_drop]; omega, fun x hx => ?_⟩
  rcases List.mem_append.mp hx with z | z
  · exact h2 x (List.mem_of_mem_take z)
  · exact h2 x (List.mem_of_mem_drop z)
abbrev tblD (t : List (List Int)) : D := .lst (t.map rowD)
section
variable {P : Program} {w : World} {K : PySem.W.Frag} {mg : Str → Option Value} {base : Heap}
theorem ok_Lin_order (T : Fac K mg) : Ok P w K mg base "_law_in_order" 3 ["_law_some"] (Pm K (fun xs : List (List Fr) => [.lst (xs.map chD)]) (fun xs => xs.length ≤ 1000 ∧ ∃ k, k ≤ 6 ∧ ∀ x ∈ xs, x.length = k ∧ ∀ c ∈ x, Sz 10000 c) (fun xs d => d = .lst ((inOrd xs).map chD))) := by
  refine okD (f_Lin_order T) (g_Lin_order T) c_Lin_order (fun _ => rfl) ?_
  rintro cdv Ar outer s E J B H xs hr ⟨hl, k, hk, hx⟩
  refine hb_set 1 (EvO.lst (o_lst a_nil)) ?_ c_Lin_order.nd
  refine hb_forX (α := Unit) [2] chD (fun x Γ => Γ.set 2 (some (chD x))) (fun _ _ => True) (fun i _ => [some (.lst (xs.map chD)), some (.lst ((inOrd (xs.take i)).map chD)), none, none, none]) (fun _ _ => []) () (i_list (x_var 0)) trivial (fun _ _ _ s => s) (fun x _ => tg_name 2 c_Lin_order.nd) (fun _ _ q h => by cases h) (fun i x _ hxi _ => ?_) (fun _ _ => ?_) PassesOwn.never
  · have hX := hx x (List.mem_of_getElem? hxi)
    have hF : ∀ y ∈ inOrd (xs.take i), y.length = k ∧ ∀ c ∈ y, Sz 10000 c := fun y hy => hx y (List.mem_of_mem_take ((inOrd_mem _ _).mp hy))
    have hFl : (inOrd (xs.take i)).length ≤ 1000 := by rw [inOrd_len, List.length_take]; omega
    have e1 : inOrd (xs.take (i + 1)) = _ := foldl_take _ [] hxi
    have e1 : inOrd (xs.take (i + 1)) = (inOrd (xs.take i)).take ((inOrd (xs.take i)).filter fun o => fahead o x).length ++ [x] ++ (inOrd (xs.take i)).drop ((inOrd (xs.take i)).filter fun o => fahead o x).length := e1
    have hle := List.length_filter_le (fun o => fahead o x) (inOrd (xs.take i))
    refine hb_set 3 (d := .int (((inOrd (xs.take i)).filter fun o => fahead o x).length : Nat)) ((x_lenL (b_len T) (EvO.lst (o_lcI [("_law_other", 4)] [4] (xs := inOrd (xs.take i)) chD (fun y Γ => Γ.set 4 (some (chD y))) (fun o => fahead o x) chD (i_list (x_var 1)) c_Lin_order.nd (blk n_Lin_order (defScope s_Lin_order)) (by omega) ?_))).is (by rw [List.length_map])) ?_ c_Lin_order.nd
    · rintro y hy Y ⟨_, _, _, _, _, rfl⟩
      have hY := hF y hy
      exact ⟨tg_name 4 c_Lin_order.nd, t_bl (x_fnD (ok_Lahead T) (y, x) hr (a_cons (x_var 4) (a_cons (x_var 2) a_nil)) ⟨by show y.length = x.length; omega, by show y.length ≤ 6; omega, hY.2, hX.2⟩), fun _ => x_var 4⟩
    · generalize ((inOrd (xs.take i)).filter fun o => fahead o x).length = n at *
      generalize inOrd (xs.take i) = f at *
      refine hb_set 1 (d := .lst ((f.take n ++ [x] ++ f.drop n).map chD)) (EvO.lst (EvO.is (o_cat (xs := (f.take n ++ [x]).map chD) (ys := (f.drop n).map chD) (EvO.lst (EvO.is (o_cat (xs := (f.take n).map chD) (ys := [chD x]) ((EvO.lst (o_slL (x_var 1) ep_none (ep_some (i := (n : Nat)) (x_var 3)))).is (by rw [cut_to hle])) (EvO.lst (o_lst (a_cons (x_var 2) a_nil))) ?_) (by rw [List.map_append]; rfl))) ((EvO.lst (o_slL (x_var 1) (ep_some (i := (n : Nat)) (x_var 3)) ep_none)).is (by rw [cut_from hle])) ?_) (by rw [List.map_append (l₁ := f.take n ++ [x])]))) (hb_nil fun σ B' H' s' => ⟨(), trivial, ?_⟩) c_Lin_order.nd
      · rw [List.length_map, List.length_take]
        simp only [List.length_cons, List.length_nil]
        omega
      · rw [List.length_map, List.length_map, List.length_append, List.length_take, List.length_drop]
        simp only [List.length_cons, List.length_nil]
        omega
      · rw [e1]
        exact s'.sub (sub_same (sub_same (sub_none (sub_none (sub_none sub_nil)))))
  · rw [List.take_length]
    exact hb_ret (x_var 1) fun _ e => e
theorem ok_Ldet (T : Fac K mg) : ∀ n : Nat, n ≤ 3 → Ok P w K mg base "_law_det" (n + 1) ["_law_table"] (Pm K (fun t : List (List Int) => [tblD t]) (Sq n) (fun t d => d = .int (detN n t)))
  | 0, _ => by
    refine okD (f_Ldet T) (g_Ldet T) c_Ldet (fun _ => rfl) ?_
    intro cdv Ar outer s E J B H t hr h
    have e : t = [] := List.length_eq_zero_iff.mp h.len
    subst e
    exact hb_ifR (PT := fun k => k = true) ((t_eq (x_lenL (b_len T) (x_var 0)) x_int).weak fun _ e => by rw [e]; decide) (fun _ => hb_ret x_int fun _ e => e) (fun z => by cases z)
  | n + 1, hn => by
    have ih := ok_Ldet T n (by omega)
    refine okD (f_Ldet T) (g_Ldet T) c_Ldet (fun _ => rfl) ?_
    intro cdv Ar outer s E J B H t hr h
    have hlen : (t.map rowD).length = n + 1 := by rw [List.length_map]; exact h.len
    obtain ⟨r0, ts, rfl⟩ : ∃ r ts, t = r :: ts := by
      cases t with
      | nil => have := h.len; simp at this
      | cons r ts => exact ⟨r, ts, rfl⟩
    obtain ⟨hr0, hx0⟩ := h.row r0 List.mem_cons_self
    refine hb_ifR (PT := fun k => k = false) ((t_eq (x_lenL (b_len T) (x_var 0)) x_int).weak fun _ e => by rw [e, hlen, dec_vint]; exact decide_eq_false (by omega)) (fun z => by cases z) (fun _ => ?_)
    refine hb_unp (P := (· = .tup [.int 0, .int 1])) (sl := [1, 2]) (fun _ Γ => (Γ.set 1 (some (.int 0))).set 2 (some (.int 1))) (x_tup (a_cons x_int (a_cons x_int a_nil))) (fun d e => by subst e; exact tg_pair 1 2 c_Ldet.nd) (fun d _ => ?_)
    let st : Int × Int → Nat → Int × Int := fun s k => (if r0.getD k 0 ≠ 0 then s.1 + s.2 * r0.getD k 0 * detN n (ts.map fun r => r.take k ++ r.drop (k + 1)) else s.1, 0 - s.2)
    refine hb_forN (α := Int × Int) 3 (n := ((n + 1 : Nat) : Int)) (fun i s => s = (List.range i).foldl st (0, 1) ∧ (s.2 = 1 ∨ s.2 = -1)) (fun _ s => [some (tblD (r0 :: ts)), some (.int s.1), some (.int s.2), none, none, none]) (fun _ _ => []) (0, 1) ((x_lenL (b_len T) (x_var 0)).is (by rw [hlen])) (by omega) (b_range T)
      ⟨rfl, .inl rfl⟩ (fun _ _ _ s => s) (fun _ _ q hq => by cases hq) (fun i sg hlt ⟨hsg, hs1⟩ => ?_) (fun sg ⟨hsg, _⟩ => ?_) PassesOwn.never c_Ldet.nd
    · have hi : i < n + 1 := by omega
      have gx : r0[i]? = some (r0.getD i 0) := by rw [List.getD_eq_getElem?_getD, List.getElem?_eq_getElem (by omega)]; rfl
      have hxi := hx0 _ (List.mem_of_getElem? gx)
      have nxt : ∀ s', s' = st sg i → (s' = (List.range (i + 1)).foldl st (0, 1) ∧ (s'.2 = 1 ∨ s'.2 = -1)) := fun s' e => by
        subst e
        refine ⟨by rw [List.range_succ, List.foldl_append, ← hsg]; rfl, ?_⟩
        show 0 - sg.2 = 1 ∨ 0 - sg.2 = -1
        omega
      refine hb_cons (M := fun σ B' H' => S K J B H [some (tblD (r0 :: ts)), some (.int (st sg i).1), some (.int sg.2), none, none, none] [] σ B' H') (hs_if (PT := fun c => c = decide (r0.getD i 0 ≠ 0)) ((t_ne (x_ixL (x_ixL (x_var 0) x_int at_zero) (x_var 3) (d := .int (r0.getD i 0)) (by rw [atI_nat, List.getElem?_map, gx]; rfl)) x_int).weak fun _ e => ?_) (fun hc => ?_) (fun hc => hb_nil fun σ B' H' s' => ?_)) ?_
      · rw [e, dec_vint, decide_not]
      · have hne : r0.getD i 0 ≠ 0 := by simpa using hc.symm
        refine hb_lcf 4 [("_law_row", 5)] [5] (xs := ts) rowD (fun r Γ => Γ.set 5 (some (rowD r))) (fun r => rowD (r.take i ++ r.drop (i + 1))) ((i_list (EvO.lst (o_slL (x_var 0) (ep_some (i := 1) x_int) ep_none))).is tail_cut) c_Ldet.nd (blk n_Ldet (defScope s_Ldet)) (by have := h.len; simp at this; omega) ?_ (O' := []) ?_ (fun _ h => by cases h) (by show 4 < 6; decide)
        · rintro r hr' Y ⟨_, _, _, _, _, rfl⟩
          have hrl := (h.row r (List.mem_cons_of_mem _ hr')).1
          refine ⟨tg_name 5 c_Ldet.nd, EvO.lst (EvO.is (o_cat (xs := (r.take i).map D.int) (ys := (r.drop (i + 1)).map D.int) (Ev.is (EvO.lst (o_slL (x_var 5) ep_none (ep_some (i := (i : Nat)) (x_var 3)))) (by rw [cut_to (by omega)])) (Ev.is (EvO.lst (o_slL (x_var 5) (ep_some (i := ((i + 1 : Nat) : Int)) (Ev.is (x_add (x_var 3) x_int) (by simp))) ep_none)) (by rw [cut_from (by omega)])) ?_) (by rw [List.map_append]))⟩
          rw [List.length_map, List.length_map, List.length_take, List.length_drop]
          omega
        · refine hb_frz ?_
          refine hb_set 1 (d := .int (sg.1 + sg.2 * r0.getD i 0 * detN n (ts.map fun r => r.take i ++ r.drop (i + 1)))) (x_add (x_var 1) (x_mulS (x_mulS (x_var 2) (x_ixL (x_ixL (x_var 0) x_int at_zero) (x_var 3) (d := .int (r0.getD i 0)) (by rw [atI_nat, List.getElem?_map, gx]; rfl)) (.inl (by omega))) (x_fnD (val := fun t => D.int (detN n t)) ih ((ts.map fun (r : List Int) => r.take i ++ r.drop (i + 1)) : List (List Int)) hr (a_cons ((x_var 4).is (show D.lst (ts.map fun (r : List Int) => rowD (r.take i ++ r.drop (i + 1))) = tblD (ts.map fun (r : List Int) => r.take i ++ r.drop (i + 1)) by unfold tblD; rw [List.map_map]; rfl)) a_nil) (h.sub i hi) (Nat.le_refl _)) (.inl ?_))) (hb_nil fun σ B' H' s' => ?_) c_Ldet.nd
          · have e60 : (2 : Nat) ^ 60 = 1152921504606846976 := by decide
            rw [e60] at hxi
            rcases hs1 with e | e <;> rw [e] <;> omega
          · have e : (st sg i).1 = sg.1 + sg.2 * r0.getD i 0 * detN n (ts.map fun r => r.take i ++ r.drop (i + 1)) := if_pos hne
            rw [e]
            exact s'.sub (sub_same (sub_same (sub_same (sub_none (sub_none (sub_none sub_nil))))))
      · have hne : ¬ (r0.getD i 0 ≠ 0) := by simpa using hc.symm
        have e : (st sg i).1 = sg.1 := if_neg hne
        rw [e]
        exact s'.sub (sub_same (sub_same (sub_same (sub_none (sub_none (sub_none sub_nil))))))
      · refine hb_set 2 (d := .int (st sg i).2) (x_sub x_int (x_var 2)) (hb_nil fun σ B' H' s' => ⟨st sg i, nxt _ rfl, s'⟩) c_Ldet.nd
    · refine hb_ret (x_var 1) fun d e => ?_
      rw [e, hsg]
      rfl
end
end Z
end
section
set_option Elab.async false
set_option linter.all false
set_option maxRecDepth 100000
set_option maxHeartbeats 400000
namespace Z
open PySem PySem.Spec PyProof.Rows L2 RZ
/-! ### plain -/
abbrev lotD (l : List Nat) : D := .lst (l.map fun (n : Nat) => D.int (n : Int))
def lotStart (l : List Nat) : Nat := match l.getLast? with
  | none => 0
  | some n => n + 1
def lotExt (size : Nat) (l : List Nat) : List (List Nat) := (List.range (size - lotStart l)).map fun i => l ++ [lotStart l + i]
def lotsN (size : Nat) : Nat → List (List Nat)
  | 0 => [[]]
  | n + 1 => (lotsN size n).flatMap (lotExt size)
theorem lotExt_len (size : Nat) (l : List Nat) : (lotExt size l).length ≤ size := by
  unfold lotExt
  rw [List.length_map, List.length_range]
  omega
theorem flat_len (size : Nat) : ∀ ls : List (List Nat), (ls.flatMap (lotExt size)).length ≤ ls.length * size
  | [] => by simp
  | l :: ls => by
    have h1 := lotExt_len size l
    have h2 := flat_len size ls
    rw [List.flatMap_cons, List.length_append, List.length_cons, Nat.add_mul]
    omega
theorem lotStart_app (l : List Nat) (n : Nat) : lotStart (l ++ [n]) = n + 1 := by
  unfold lotStart
  rw [List.getLast?_append]
  rfl
theorem lots_ok (size : Nat) : ∀ (i : Nat), ∀ l ∈ lotsN size i, l.length = i ∧ ∀ n ∈ l, n < size
  | 0, l, h => by
    have : l = [] := by simpa [lotsN] using h
    subst this
    exact ⟨rfl, fun _ h => by cases h⟩
  | i + 1, l, h => by
    obtain ⟨l', h1, h2⟩ := List.mem_flatMap.mp h
    obtain ⟨e1, e2⟩ := lots_ok size i l' h1
    unfold lotExt at h2
    obtain ⟨j, hj, rfl⟩ := List.mem_map.mp h2
    have hj := List.mem_range.mp hj
    refine ⟨by rw [List.length_append, e1]; rfl, fun n hn => ?_⟩
    rcases List.mem_append.mp hn with z | z
    · exact e2 n z
    · rw [List.mem_singleton.mp z]
      omega
theorem lotStart_le {size : Nat} {l : List Nat} (h : ∀ n ∈ l, n < size) : lotStart l ≤ size := by
  rcases List.eq_nil_or_concat l with rfl | ⟨ls, n, rfl⟩
  · exact Nat.zero_le _
  · rw [List.concat_eq_append] at h ⊢
    rw [lotStart_app]
    exact h n (by simp)
structure CornersOk (k : Nat) (cs : List (List Fr)) : Prop where
  few : cs.length ≤ 1000
  each : ∀ c ∈ cs, c.length = k ∧ ∀ f ∈ c, Sz 300 f
section
variable {P : Program} {w : World} {K : PySem.W.Frag} {mg : Str → Option Value} {base : Heap}
theorem ok_Lleast_by (T : Fac K mg) : Ok P w K mg base "_law_least_by" 5 ["_law_corners_here", "_law_payoff_here"] (Pm K (fun a : List Fr × List (List Fr) × List Int => [.lst ((a.1 :: a.2.1).map chD), .tup (a.2.2.map D.int)]) (fun a => ∃ k, k ≤ 6 ∧ CornersOk k (a.1 :: a.2.1) ∧ PayOk k a.2.2) (fun a d => d = frD (lleast (worth a.2.2 a.1) ((a.1 :: a.2.1).map (worth a.2.2))))) := by
  refine okD (f_Lleast_by T) (g_Lleast_by T) c_Lleast_by (fun _ => rfl) ?_
  rintro cdv Ar outer s E J B H ⟨c, cs, pay⟩ hr ⟨k, hk, hc, hp⟩
  have hl : pay.length = k := hp.1
  have hw : ∀ x ∈ c :: cs, Sz 10000 (worth pay x) := fun x hx => sz_mono (worth_sz hp.2 ⟨by rw [(hc.each x hx).1]; exact hk, (hc.each x hx).2⟩) (by decide)
  have hf : (c :: cs).length ≤ 1000 := hc.few
  refine hb_ret (x_fnD (ok_Lleast T) (worth pay c, cs.map (worth pay)) hr (a_cons (EvO.lst (EvO.is (o_lc [("_law_corner", 2)] [2] (xs := c :: cs) chD (fun x Γ => Γ.set 2 (some (chD x))) (fun x => frD (worth pay x)) (i_list (x_var 0)) c_Lleast_by.nd (blk n_Lleast_by (defScope s_Lleast_by)) (by omega) ?_) (ds' := (worth pay c :: cs.map (worth pay)).map frD) (by rw [← List.map_cons (f := worth pay), List.map_map]; rfl))) a_nil) ⟨by show (cs.map (worth pay)).length ≤ 1000; rw [List.length_map]; simp at hf; omega, fun x hx => ?_⟩) fun _ e => e
  · rintro x hx Y ⟨_, _, _, _, _, rfl⟩
    exact ⟨tg_name 2 c_Lleast_by.nd, x_fnD (ok_Lworth T) (pay, x) hr (a_cons (x_var 1) (a_cons (x_var 2) a_nil)) ⟨by show pay.length = x.length; rw [(hc.each x hx).1]; exact hl, hp.2, ⟨by rw [(hc.each x hx).1]; exact hk, (hc.each x hx).2⟩⟩⟩
  · have hx : x ∈ (c :: cs).map (worth pay) := hx
    obtain ⟨y, hy, rfl⟩ := List.mem_map.mp hx
    exact hw y hy
theorem ok_Lgreatest_by (T : Fac K mg) : Ok P w K mg base "_law_greatest_by" 6 ["_law_corners_here", "_law_payoff_here"] (Pm K (fun a : List Fr × List (List Fr) × List Int => [.lst ((a.1 :: a.2.1).map chD), .tup (a.2.2.map D.int)]) (fun a => ∃ k, k ≤ 6 ∧ CornersOk k (a.1 :: a.2.1) ∧ PayOk k a.2.2) (fun a d => d = frD (fneg (lleast (worth (a.2.2.map fun n => -n) a.1) ((a.1 :: a.2.1).map (worth (a.2.2.map fun n => -n))))))) := by
  refine okD (f_Lgreatest_by T) (g_Lgreatest_by T) c_Lgreatest_by (fun _ => rfl) ?_
  rintro cdv Ar outer s E J B H ⟨c, cs, pay⟩ hr ⟨k, hk, hc, hp⟩
  have hl : pay.length = k := hp.1
  refine hb_ret (x_fnD (ok_Lminus T) (lleast (worth (pay.map fun n => -n) c) ((c :: cs).map (worth (pay.map fun n => -n)))) hr (a_cons (x_fnD (ok_Lleast_by T) (c, cs, pay.map fun n => -n) hr (a_cons (x_var 0) (a_cons (x_tuple (b_tuple T) (EvO.lst (EvO.is (o_lc [("_law_each", 2)] [2] (xs := pay) D.int (fun n Γ => Γ.set 2 (some (.int n))) (fun n => D.int (-n)) (i_tup (x_var 1)) c_Lgreatest_by.nd (blk n_Lgreatest_by (defScope s_Lgreatest_by)) (by omega) ?_) (ds' := (pay.map fun n => -n).map D.int) (by rw [List.map_map]; rfl)))) a_nil)) ⟨k, hk, hc, hp.neg⟩) a_nil) trivial) fun _ e => e
  rintro n hn Y ⟨_, _, _, _, _, rfl⟩
  exact ⟨tg_name 2 c_Lgreatest_by.nd, Ev.is (x_sub x_int (x_var 2)) (by rw [Int.zero_sub])⟩
theorem ok_Llots (T : Fac K mg) : Ok P w K mg base "_law_lots" 1 ["_law_size", "_law_many"] (Pm K (fun a : Nat × Nat => [.int (a.1 : Nat), .int (a.2 : Nat)]) (fun a => a.1 ≤ 12 ∧ a.2 ≤ 2) (fun a d => d = .lst ((lotsN a.1 a.2).map lotD))) := by
  refine okD (f_Llots T) (g_Llots T) c_Llots (fun _ => rfl) ?_
  rintro cdv Ar outer s E J B H ⟨size, many⟩ hr ⟨hs, hm⟩
  have hs : size ≤ 12 := hs
  have hm : many ≤ 2 := hm
  have hlen : ∀ i, (lotsN size i).length ≤ 12 ^ i := by
    intro i
    induction i with
    | zero => exact (show 1 ≤ 1 by decide)
    | succ i ih =>
      have h1 := flat_len size (lotsN size i)
      show ((lotsN size i).flatMap (lotExt size)).length ≤ 12 ^ (i + 1)
      rw [Nat.pow_succ]
      exact Nat.le_trans h1 (Nat.mul_le_mul ih hs)
  have hlen2 : ∀ i, i ≤ 2 → (lotsN size i).length ≤ 144 := fun i hi => Nat.le_trans (hlen i) (Nat.le_trans (Nat.pow_le_pow_right (by decide) hi) (by decide))
  refine hb_set 2 (EvO.lst (o_lst (ds := [.lst []]) (a_cons (EvO.lst (o_lst a_nil)) a_nil))) ?_ c_Llots.nd
  refine hb_forN (α := Unit) 3 (n := (many : Nat)) (fun _ _ => True) (fun i _ => [some (.int (size : Nat)), some (.int (many : Nat)), some (.lst ((lotsN size i).map lotD)), none, none, none, none]) (fun _ _ => []) () (x_var 1) (by omega) (b_range T)
    trivial (fun _ _ _ s => s) (fun _ _ q hq => by cases hq) (fun i _ hlt _ => ?_) (fun _ _ => ?_) PassesOwn.never c_Llots.nd
  · have hi : i ≤ 2 := by omega
    have h144 := hlen2 i hi
    refine hb_set 4 (EvO.lst (o_lst a_nil)) ?_ c_Llots.nd
    refine hb_forX (α := Unit) (xs := lotsN size i) [5] lotD (fun l Γ => Γ.set 5 (some (lotD l))) (fun _ _ => True) (fun j _ => [some (.int (size : Nat)), some (.int (many : Nat)), some (.lst ((lotsN size i).map lotD)), none, some (.lst ((((lotsN size i).take j).flatMap (lotExt size)).map lotD)), none, none]) (fun _ _ => []) () (i_list (x_var 2)) trivial (fun _ _ _ s => s.sub (sub_same (sub_same (sub_same (sub_none (sub_same (sub_none (sub_none sub_nil)))))))) (fun l _ => tg_name 5 c_Llots.nd) (fun _ _ q h => by cases h) (fun j l _ hl _ => ?_) (fun _ _ => ?_) PassesOwn.never
    · have hfl := flat_len size ((lotsN size i).take j)
      have hel := lotExt_len size l
      obtain ⟨ll, lm⟩ := lots_ok size i l (List.mem_of_getElem? hl)
      have lst := lotStart_le lm
      have hb : (((lotsN size i).take j).flatMap (lotExt size)).length ≤ 144 * 12 := Nat.le_trans hfl (Nat.mul_le_mul (by rw [List.length_take]; omega) hs)
      have e1 : ((lotsN size i).take (j + 1)).flatMap (lotExt size) = ((lotsN size i).take j).flatMap (lotExt size) ++ lotExt size l := by
        rw [List.take_add_one, hl, List.flatMap_append]
        simp
      refine hb_set 4 (d := .lst ((((lotsN size i).take (j + 1)).flatMap (lotExt size)).map lotD)) (EvO.lst (EvO.is (o_cat (x_var 4) (EvO.lst (EvO.is (o_lc [("_law_k", 6)] [6] (xs := List.range (size - lotStart l)) (fun (n : Nat) => D.int ((lotStart l : Nat) + (n : Int))) (fun n Γ => Γ.set 6 (some (.int ((lotStart l : Nat) + (n : Int))))) (fun n => lotD (l ++ [lotStart l + n])) ((i_range2 (lo := ((lotStart l : Nat) : Int)) (n := (size : Nat)) (x_if (PT := fun c => c = !(l.map fun (n : Nat) => D.int (n : Int)).isEmpty) (t_neNil hr (x_var 5)) (fun hc => ?_) (fun hc => ?_)) (x_var 0) ?_ (by omega) (b_range T)).is ?_) c_Llots.nd (blk n_Llots (defScope s_Llots)) (by rw [List.length_range]; omega) ?_) (ds' := (lotExt size l).map lotD) (by unfold lotExt; rw [List.map_map]; rfl))) ?_) ?_)) (hb_nil fun σ B' H' s' => ⟨(), trivial, s'.sub (sub_same (sub_same (sub_same (sub_none (sub_same (sub_none (sub_none sub_nil)))))))⟩) c_Llots.nd
      · rcases List.eq_nil_or_concat l with rfl | ⟨ls, n, rfl⟩
        · cases hc
        · rw [List.concat_eq_append] at *
          rw [lotStart_app]
          exact (x_add (x_ixL (x_var 5) (x_neg (i := 1) x_int) (d := .int (n : Nat)) (by rw [List.map_append]; exact atI_last)) x_int).is (by simp)
      · rcases List.eq_nil_or_concat l with rfl | ⟨ls, n, rfl⟩
        · exact x_int
        · rw [List.concat_eq_append] at hc
          simp at hc
      · omega
      · rw [show (((size : Nat) : Int) - ((lotStart l : Nat) : Int)).toNat = size - lotStart l by omega]
      · rintro n hn Y ⟨_, _, _, _, _, rfl⟩
        refine ⟨tg_name 6 c_Llots.nd, EvO.lst (EvO.is (o_cat (x_var 5) (EvO.lst (o_lst (a_cons (x_var 6) a_nil))) ?_) ?_)⟩
        · rw [List.length_map, ll]
          simp only [List.length_cons, List.length_nil]
          omega
        · rw [List.map_append]
          simp
      · rw [List.length_map, List.length_map]
        omega
      · rw [e1, List.map_append]
    · refine hb_set 2 (d := .lst ((lotsN size (i + 1)).map lotD)) ((x_var 4).is ?_) (hb_nil fun σ B' H' s' => ⟨(), trivial, s'.sub (sub_same (sub_same (sub_same (sub_none (sub_none (sub_none (sub_none sub_nil)))))))⟩) c_Llots.nd
      rw [List.take_length]
      rfl
  · exact hb_ret (x_var 2) fun d e => by rw [e]; rfl
end
end Z
end
section
set_option Elab.async false
set_option linter.all false
set_option maxRecDepth 100000
set_option maxHeartbeats 400000
namespace Z
open PySem PySem.Spec PyProof.Rows L2 RZ
section
variable {K : PySem.W.Frag} {J : Jx} {B0 H0 B H B' H' : Hp} {Γ Γ' : Gam} {O O' : Own} {σ : L2.St} {i : Nat} {ds : List D}
theorem S.frzAt (s : S K J B0 H0 Γ ((i, ds) :: O) σ B H) {a : Addr} {vs : List V} (o : OwnAt K J H0 (i, ds) σ B H a vs) : W J (upd B a (.lst vs)) H ∧ Fit K J (Γ.set i (some (.lst ds))) σ (upd B a (.lst vs)) := by
  have w := s.w
  refine ⟨w.push (same_upd o.out) (fun b u e => ?_) (fun x hx => ?_), ⟨fun k d' h => ?_, by rw [List.length_set]; exact s.len⟩⟩
  · by_cases z : b = a
    · subst z
      rw [upd_same] at e
      cases e
      exact o.lst
    · rw [upd_ne z] at e
      exact w.s _ _ e
  · have ne : x ≠ a := fun z => o.nj (by rw [← z]; exact hx)
    exact ⟨by rw [upd_ne ne]; exact (w.has hx).1, rfl⟩
  · rw [get_set] at h
    by_cases hk : i = k
    · subst hk
      rw [if_pos rfl] at h
      split at h
      · have : D.lst ds = d' := by injection h with h; injection h
        subst this
        exact ⟨.ref a, o.at_, den_lst.mpr ⟨a, vs, rfl, upd_same, o.den.mono (same_upd o.out)⟩⟩
      · cases h
    · rw [if_neg hk] at h
      obtain ⟨u, h1, h2⟩ := s.fit.g k d' h
      exact ⟨u, h1, h2.mono (same_upd o.out)⟩
end
section
variable {X : Cx} {J : Jx} {B0 H0 : Hp} {Γ Γ' : Gam} {O O' : Own} {N M : Sp3} {R : Rp} {st : Stmt} {rest body : List Stmt} {e c a b idx : Expr} {es : List Expr} {pos : Pos} {P : D → Prop} {d : D}
/-- a test that reads a list of one's own -/
theorem hs_ifOwn (i : Nat) {ds : List D} {els : List Stmt} {PT : Bool → Prop} (h : EvT X J (Γ.set i (some (.lst ds))) c PT) (hn : ∀ q ∈ O, q.1 ≠ i) (ht : PT true → HB X body (SX X J B0 H0 Γ ((i, ds) :: O)) M R) (hf : PT false → HB X els (SX X J B0 H0 Γ ((i, ds) :: O)) M R) : HS X (.If c body els pos) (SX X J B0 H0 Γ ((i, ds) :: O)) M R :=
  fun σ B H s E n r => ofS (ps_if wpT.pt wpSs.pss wpSs.pss) (by
      obtain ⟨a, vs, o⟩ := s.own (i, ds) List.mem_cons_self
      obtain ⟨w1, f1⟩ := s.frzAt o
      refine h σ (upd B a (.lst vs)) H w1 f1 _ fun b B1 H1 p t => ?_
      have s2 := s.thaw o hn t
      have sb : Same B (fun x => if x = a then none else B1 x) := fun x u e => by
        have ne : x ≠ a := fun z => by rw [z, o.out] at e; cases e
        show (if x = a then none else B1 x) = some u
        rw [if_neg ne]
        exact t.b _ _ (by rw [upd_ne ne]; exact e)
      cases b with
      | true => exact iteT (ht p σ _ H1 s2 E (fun σ2 B2 H2 e2 => n σ2 B2 H2 (sb.trans e2)) fun v B2 H2 e2 => r v B2 H2 (sb.trans e2))
      | false => exact iteF (hf p σ _ H1 s2 E (fun σ2 B2 H2 e2 => n σ2 B2 H2 (sb.trans e2)) fun v B2 H2 e2 => r v B2 H2 (sb.trans e2)))
end
/-! ### corners: plain -/
def lawPoint (k : Nat) (own : List (List Int)) : List Int := (List.range k).map fun j => detN (k - 1) (own.map fun r => r.take j ++ r.drop (j + 1)) * (if j % 2 = 0 then 1 else -1)
def lawFlip (pt : List Int) : List Int := pt.map fun e => if 0 < pt.sum then e else 0 - e
def dotR (k : Nat) (r pt : List Int) : Int := ((List.range k).map fun j => r.getD j 0 * pt.getD j 0).sum
def absI (i : Int) : Int := if i < 0 then -i else i
def lawCand (k : Nat) (rows : List (List Int)) (lot : List Nat) : Option (List Fr) :=
  let pt := lawPoint k (lot.map fun i => rows.getD i [])
  if pt.sum = 0 then none else if rows.all (fun r => decide (0 ≤ dotR k r (lawFlip pt))) = true then some ((lawFlip pt).map fun e => low e (absI pt.sum)) else none
def addC (found : List (List Fr)) : Option (List Fr) → List (List Fr)
  | none => found
  | some c => if c ∈ found then found else found ++ [c]
def lawCor (k : Nat) (qs : List Qt) : List (List Fr) := inOrd ((lotsN (lawRows k qs).length (k - 1)).foldl (fun f lot => addC f (lawCand k (lawRows k qs) lot)) [])
end Z
end
section
set_option Elab.async false
set_option linter.all false
set_option maxRecDepth 100000
set_option maxHeartbeats 400000
namespace Z
open PySem PySem.Spec PyProof.Rows L2 RZ
theorem det_one (a : Int) : detN 1 [[a]] = a := by
  show ((List.range 1).foldl _ (0, 1)).1 = a
  have e : List.range 1 = [0] := rfl
  rw [e]
  simp only [List.foldl_cons, List.foldl_nil, List.headD_cons, List.getD_cons_zero]
  by_cases h : a = 0
  · rw [if_neg (by simpa using h), h]
  · rw [if_pos h]
    show 0 + 1 * a * 1 = a
    omega
theorem det_two (a b c d : Int) : detN 2 [[a, b], [c, d]] = a * d - b * c := by
  show ((List.range 2).foldl _ (0, 1)).1 = a * d - b * c
  have e : List.range 2 = [0, 1] := rfl
  rw [e]
  simp only [List.foldl_cons, List.foldl_nil, List.headD_cons, List.getD_cons_zero, List.getD_cons_succ, List.tail_cons, List.map_cons, List.map_nil, List.take_zero, List.take_succ_cons, List.drop_succ_cons, List.drop_zero, List.nil_append, List.cons_append, List.drop_nil, List.append_nil, det_one]
  by_cases ha : a = 0
  · by_cases hb : b = 0
    · simp [ha, hb]
    · simp [ha, hb, Int.neg_mul]
  · by_cases hb : b = 0
    · simp [ha, hb]
    · simp [ha, hb, Int.neg_mul]
      omega
theorem point2 (r0 r1 : Int) : lawPoint 2 [[r0, r1]] = [r1, -r0] := by
  show (List.range 2).map _ = _
  have e : List.range 2 = [0, 1] := rfl
  rw [e]
  simp only [List.map_cons, List.map_nil, List.take_zero, List.take_succ_cons, List.drop_succ_cons, List.drop_zero, List.nil_append, List.cons_append, List.drop_nil, List.append_nil]
  have d1 := det_one r1
  have d0 := det_one r0
  simp [d1, d0]
theorem point3 (r0 r1 r2 s0 s1 s2 : Int) : lawPoint 3 [[r0, r1, r2], [s0, s1, s2]] = [r1 * s2 - r2 * s1, -(r0 * s2 - r2 * s0), r0 * s1 - r1 * s0] := by
  show (List.range 3).map _ = _
  have e : List.range 3 = [0, 1, 2] := rfl
  rw [e]
  simp only [List.map_cons, List.map_nil, List.take_zero, List.take_succ_cons, List.drop_succ_cons, List.drop_zero, List.nil_append, List.cons_append, List.drop_nil, List.append_nil]
  have d1 := det_two r1 r2 s1 s2
  have d2 := det_two r0 r2 s0 s2
  have d3 := det_two r0 r1 s0 s1
  simp [d1, d2, d3]
end Z
end
section
set_option Elab.async false
set_option linter.all false
set_option maxRecDepth 100000
set_option maxHeartbeats 400000
namespace Z
open PySem PySem.Spec PyProof.Rows L2 RZ
/-! ### corners: sizes -/
theorem rows_len (k : Nat) (qs : List Qt) : (lawRows k qs).length = k + qs.length := by
  unfold lawRows
  rw [List.length_append, List.length_map, List.length_map, List.length_range]
theorem rows_ok {k : Nat} {qs : List Qt} (hq : ∀ q ∈ qs, QtOk k q) : ∀ r ∈ lawRows k qs, r.length = k ∧ ∀ x ∈ r, x.natAbs < 2 ^ 42 := by
  intro r hr
  unfold lawRows at hr
  rcases List.mem_append.mp hr with h | h
  · obtain ⟨j, _, rfl⟩ := List.mem_map.mp h
    unfold unitRow
    refine ⟨by rw [List.length_map, List.length_range], fun x hx => ?_⟩
    obtain ⟨i, _, rfl⟩ := List.mem_map.mp hx
    split <;> decide
  · obtain ⟨q, hqm, rfl⟩ := List.mem_map.mp h
    have hQ := hq q hqm
    refine ⟨by rw [List.length_map]; exact hQ.len, fun x hx => ?_⟩
    obtain ⟨n, hn, rfl⟩ := List.mem_map.mp hx
    have h1 := pay_bd (hQ.pay n hn)
    have h2 := hQ.pr.sz2
    exact bd_mono (bd_sub (bd_mul h1 h2.2.2) (bd_mono h2.1 (show 20 ≤ 20 + 20 by decide))) (by decide)
theorem point_ok {k : Nat} (hk : k = 2 ∨ k = 3) {own : List (List Int)} (hl : own.length = k - 1) (h : ∀ r ∈ own, r.length = k ∧ ∀ x ∈ r, x.natAbs < 2 ^ 42) : (lawPoint k own).length = k ∧ ∀ x ∈ lawPoint k own, x.natAbs < 2 ^ 85 := by
  rcases hk with rfl | rfl
  · obtain ⟨r, rfl⟩ : ∃ r, own = [r] := by
      match own, hl with
      | [r], _ => exact ⟨r, rfl⟩
    obtain ⟨h1, h2⟩ := h r List.mem_cons_self
    obtain ⟨a, b, rfl⟩ : ∃ a b, r = [a, b] := by
      match r, h1 with
      | [a, b], _ => exact ⟨a, b, rfl⟩
    rw [point2]
    refine ⟨rfl, fun x hx => ?_⟩
    have ha := bd_mono (h2 a (by simp)) (show 42 ≤ 85 by decide)
    have hb := bd_mono (h2 b (by simp)) (show 42 ≤ 85 by decide)
    simp only [List.mem_cons, List.not_mem_nil, or_false] at hx
    rcases hx with rfl | rfl
    · exact hb
    · rw [Int.natAbs_neg]; exact ha
  · obtain ⟨r, s, rfl⟩ : ∃ r s, own = [r, s] := by
      match own, hl with
      | [r, s], _ => exact ⟨r, s, rfl⟩
    obtain ⟨h1, h2⟩ := h r (by simp)
    obtain ⟨g1, g2⟩ := h s (by simp)
    obtain ⟨a, b, c, rfl⟩ : ∃ a b c, r = [a, b, c] := by
      match r, h1 with
      | [a, b, c], _ => exact ⟨a, b, c, rfl⟩
    obtain ⟨d, e, f, rfl⟩ : ∃ a b c, s = [a, b, c] := by
      match s, g1 with
      | [a, b, c], _ => exact ⟨a, b, c, rfl⟩
    rw [point3]
    refine ⟨rfl, fun x hx => ?_⟩
    have ha := h2 a (by simp)
    have hb := h2 b (by simp)
    have hc := h2 c (by simp)
    have hd := g2 d (by simp)
    have he := g2 e (by simp)
    have hf := g2 f (by simp)
    simp only [List.mem_cons, List.not_mem_nil, or_false] at hx
    rcases hx with rfl | rfl | rfl
    · exact bd_sub (bd_mul hb hf) (bd_mul hc he)
    · rw [Int.natAbs_neg]; exact bd_sub (bd_mul ha hf) (bd_mul hc hd)
    · exact bd_sub (bd_mul ha he) (bd_mul hb hd)
theorem sum_bdN : ∀ (ps : List Int), ps.length ≤ 3 → (∀ p ∈ ps, p.natAbs < 2 ^ 85) → ps.sum.natAbs < 2 ^ 88 := by
  intro ps hl h
  have e : (2 : Nat) ^ 88 = 8 * 2 ^ 85 := by decide
  have go : ∀ (ps : List Int), (∀ p ∈ ps, p.natAbs < 2 ^ 85) → ps.sum.natAbs ≤ ps.length * 2 ^ 85 := by
    intro ps
    induction ps with
    | nil => intro _; simp
    | cons p ps ih =>
      intro h
      have h1 := h p List.mem_cons_self
      have h2 := ih fun q hq => h q (List.mem_cons_of_mem _ hq)
      rw [List.sum_cons, List.length_cons, Nat.add_mul]
      omega
  have := go ps h
  rw [e]
  have h3 : ps.length * 2 ^ 85 ≤ 3 * 2 ^ 85 := Nat.mul_le_mul_right _ hl
  have : 0 < 2 ^ 85 := by decide
  omega
theorem flip_ok {pt : List Int} (h : ∀ x ∈ pt, x.natAbs < 2 ^ 85) : ∀ x ∈ lawFlip pt, x.natAbs < 2 ^ 85 := by
  intro x hx
  unfold lawFlip at hx
  obtain ⟨y, hy, rfl⟩ := List.mem_map.mp hx
  have := h y hy
  split
  · exact this
  · rw [Int.zero_sub, Int.natAbs_neg]; exact this
theorem cand_ok {k : Nat} (hk : k = 2 ∨ k = 3) {qs : List Qt} (hq : ∀ q ∈ qs, QtOk k q) {lot : List Nat} (hl : lot.length = k - 1) (hb : ∀ n ∈ lot, n < (lawRows k qs).length) {c : List Fr} (h : lawCand k (lawRows k qs) lot = some c) : c.length = k ∧ ∀ f ∈ c, Sz 90 f := by
  have hown : ∀ r ∈ lot.map (fun i => (lawRows k qs).getD i []), r.length = k ∧ ∀ x ∈ r, x.natAbs < 2 ^ 42 := by
    intro r hr
    obtain ⟨n, hn, rfl⟩ := List.mem_map.mp hr
    have hn := hb n hn
    rw [List.getD_eq_getElem?_getD, List.getElem?_eq_getElem hn]
    exact rows_ok hq _ (List.getElem_mem hn)
  obtain ⟨p1, p2⟩ := point_ok hk (by rw [List.length_map]; exact hl) hown
  unfold lawCand at h
  dsimp only at h
  split at h
  · cases h
  · rename_i hne
    split at h
    · have e : _ = c := Option.some.inj h
      subst e
      refine ⟨by rw [List.length_map]; unfold lawFlip; rw [List.length_map]; exact p1, fun f hf => ?_⟩
      obtain ⟨x, hx, rfl⟩ := List.mem_map.mp hf
      have h1 := flip_ok p2 x hx
      have h2 := sum_bdN _ (by omega) p2
      refine low_sz ⟨bd_mono h1 (by decide), ?_, ?_⟩
      · show 0 < absI _
        unfold absI
        split <;> omega
      · show (absI _).natAbs < _
        refine bd_mono (m := 88) ?_ (by decide)
        unfold absI
        split
        · rw [Int.natAbs_neg]; exact h2
        · exact h2
    · cases h
end Z
end
section
set_option Elab.async false
set_option linter.all false
set_option maxRecDepth 100000
set_option maxHeartbeats 400000
namespace Z
open PySem PySem.Spec PyProof.Rows L2 RZ
theorem minI_ex : ∀ (ns : List Int), 0 < ns.length → ∃ m ∈ ns, ∀ y ∈ ns, m ≤ y
  | [n], _ => ⟨n, by simp, fun y hy => by simp at hy; omega⟩
  | n :: m :: ns, _ => by
    obtain ⟨x, h1, h2⟩ := minI_ex (m :: ns) (by simp)
    by_cases h : n ≤ x
    · refine ⟨n, by simp, fun y hy => ?_⟩
      rcases List.mem_cons.mp hy with e | e
      · omega
      · have := h2 y e
        omega
    · refine ⟨x, List.mem_cons_of_mem _ h1, fun y hy => ?_⟩
      rcases List.mem_cons.mp hy with e | e
      · omega
      · exact h2 y e
theorem lots_few {size : Nat} (hs : size ≤ 12) : ∀ i, i ≤ 2 → (lotsN size i).length ≤ 144
  | 0, _ => by show 1 ≤ 144; decide
  | 1, _ => by
    have h1 := flat_len size (lotsN size 0)
    show ((lotsN size 0).flatMap (lotExt size)).length ≤ 144
    have : (lotsN size 0).length = 1 := rfl
    rw [this] at h1
    omega
  | 2, _ => by
    have h1 := flat_len size (lotsN size 0)
    have h2 := flat_len size (lotsN size 1)
    have e : (lotsN size 0).length = 1 := rfl
    rw [e] at h1
    have h3 : (lotsN size 1).length ≤ 12 := by show ((lotsN size 0).flatMap (lotExt size)).length ≤ 12; omega
    show ((lotsN size 1).flatMap (lotExt size)).length ≤ 144
    exact Nat.le_trans h2 (Nat.mul_le_mul h3 hs)
theorem addC_all (P : List Fr → Prop) (g : List Nat → Option (List Fr)) : ∀ (ls : List (List Nat)) (f : List (List Fr)), (∀ c ∈ f, P c) → (∀ l ∈ ls, ∀ c, g l = some c → P c) → (∀ c ∈ ls.foldl (fun f l => addC f (g l)) f, P c) ∧ (ls.foldl (fun f l => addC f (g l)) f).length ≤ f.length + ls.length
  | [], f, h, _ => ⟨h, by simp⟩
  | l :: ls, f, h, hg => by
    have h1 : (∀ c ∈ addC f (g l), P c) ∧ (addC f (g l)).length ≤ f.length + 1 := by
      cases e : g l with
      | none => exact ⟨h, Nat.le_succ _⟩
      | some c =>
        unfold addC
        dsimp only
        split
        · exact ⟨h, Nat.le_succ _⟩
        · refine ⟨fun x hx => ?_, by simp⟩
          rcases List.mem_append.mp hx with z | z
          · exact h x z
          · rw [List.mem_singleton.mp z]
            exact hg l List.mem_cons_self c e
    obtain ⟨h2, h3⟩ := addC_all P g ls _ h1.1 fun l' hl' => hg l' (List.mem_cons_of_mem _ hl')
    refine ⟨h2, Nat.le_trans h3 ?_⟩
    rw [List.length_cons]
    omega
theorem frD_pls : ∀ c : List Fr, pls (c.map frD) = true ∧ dpts (c.map frD) ≤ 10
  | [] => by simp [pls, dpts]
  | f :: c => by
    obtain ⟨h1, h2⟩ := frD_pls c
    simp [pls, dpts, pl, dpt, h1]
    omega
theorem pl_chD (c : List Fr) : pl (chD c) = true := by
  unfold pl
  exact (frD_pls c).1
theorem dpt_chD (c : List Fr) : dpt (chD c) ≤ 60 := by
  have := (frD_pls c).2
  unfold dpt
  omega
theorem pls_chDs : ∀ f : List (List Fr), pls (f.map chD) = true ∧ dpts (f.map chD) ≤ 50
  | [] => by simp [pls, dpts]
  | c :: f => by
    obtain ⟨h1, h2⟩ := pls_chDs f
    have := (frD_pls c)
    simp [pls, dpts, pl, dpt, h1, this.1]
    omega
theorem mem_chD {c : List Fr} {f : List (List Fr)} : chD c ∈ f.map chD ↔ c ∈ f := by
  rw [List.mem_map]
  constructor
  · rintro ⟨x, h, e⟩
    have : x = c := by
      injection e with e
      exact (List.map_inj_right (fun a b h => frD_inj.mp h)).mp e
    rw [← this]; exact h
  · exact fun h => ⟨c, h, rfl⟩
section
variable {P : Program} {w : World} {K : PySem.W.Frag} {mg : Str → Option Value} {base : Heap}
theorem ok_Lcorners (T : Fac K mg) : Ok P w K mg base "_law_corners" 6 ["_law_size", "_law_quotes_here"] (Pm K (fun a : Nat × List Qt => [.int (a.1 : Nat), .tup (a.2.map qD)]) (fun a => (a.1 = 2 ∨ a.1 = 3) ∧ a.2.length ≤ 8 ∧ ∀ q ∈ a.2, QtOk a.1 q) (fun a d => d = .lst ((lawCor a.1 a.2).map chD))) := by
  refine okD (f_Lcorners T) (g_Lcorners T) c_Lcorners (fun _ => rfl) ?_
  rintro cdv Ar outer s E J B H ⟨k, qs⟩ hr ⟨hk, h8, hq⟩
  have hk : k = 2 ∨ k = 3 := hk
  have h8 : qs.length ≤ 8 := h8
  have hq : ∀ q ∈ qs, QtOk k q := hq
  refine hb_set 2 (x_fnD (ok_Lrows T) (k, qs) hr (a_cons (x_var 0) (a_cons (x_var 1) a_nil)) ⟨hk, h8, hq⟩) ?_ c_Lcorners.nd
  have hrl := rows_len k qs
  have hro := rows_ok hq
  have hcand := fun {lot} => cand_ok (lot := lot) hk hq
  refine hb_own 3 (PL := (· = [])) (O' := []) (o_lst a_nil) (fun ds e => ?_) (fun _ h => by cases h) (by show 3 < 12; decide) c_Lcorners.nd
  subst e
  show HB _ _ (S K J B H [some (.int (k : Nat)), some (.tup (qs.map qD)), some (.lst ((lawRows k qs).map rowD)), none, none, none, none, none, none, none, none, none] [(3, [])] ) _ _
  have hfin : lawCor k qs = inOrd ((lotsN (lawRows k qs).length (k - 1)).foldl (fun f lot => addC f (lawCand k (lawRows k qs) lot)) []) := rfl
  show HB _ _ _ _ (Ret K J B H (fun d => d = .lst ((lawCor k qs).map chD)))
  rw [hfin]
  clear hfin
  generalize lawRows k qs = rows at *
  have hlots := fun l h => lots_ok rows.length (k - 1) l h
  have hll : (lotsN rows.length (k - 1)).length ≤ 1000 := Nat.le_trans (lots_few (by omega) (k - 1) (by omega)) (by decide)
  generalize hL : lotsN rows.length (k - 1) = lots at *
  let fd : Nat → List (List Fr) := fun i => (lots.take i).foldl (fun f lot => addC f (lawCand k rows lot)) []
  have hfall : ∀ i, (∀ c ∈ fd i, c.length = k ∧ ∀ f ∈ c, Sz 90 f) ∧ (fd i).length ≤ 1000 := fun i => by
    obtain ⟨h1, h2⟩ := addC_all (fun c => c.length = k ∧ ∀ f ∈ c, Sz 90 f) (lawCand k rows) (lots.take i) [] (fun _ h => by cases h) fun l hl c hc => by
      obtain ⟨a, b⟩ := hlots l (List.mem_of_mem_take hl)
      exact hcand a b hc
    refine ⟨h1, Nat.le_trans h2 ?_⟩
    rw [List.length_take, List.length_nil]
    omega
  refine hb_forX (α := Unit) (xs := lots) [4] lotD (fun l Γ => Γ.set 4 (some (lotD l))) (fun _ _ => True) (fun _ _ => [some (.int (k : Nat)), some (.tup (qs.map qD)), some (.lst (rows.map rowD)), none, none, none, none, none, none, none, none, none]) (fun i _ => [(3, (fd i).map chD)]) () (i_list ((x_fnD (ok_Llots T) (rows.length, k - 1) hr (a_cons ((x_lenL (b_len T) (x_var 2)).is (d' := .int ((rows.length : Nat) : Int)) (by rw [List.length_map])) (a_cons ((x_sub (x_var 0) x_int).is (d' := .int ((k - 1 : Nat) : Int)) (congrArg D.int (by omega))) a_nil)) ⟨by show rows.length ≤ 12; omega, by show k - 1 ≤ 2; omega⟩).is (d' := .lst (lots.map lotD)) (by rw [← hL]))) trivial (fun _ _ _ s => s) (fun l _ => tg_name 4 c_Lcorners.nd) (fun _ _ q h => by simp at h; subst h; simp) (fun i lot _ hli _ => ?_) (fun _ _ => ?_) PassesOwn.never
  · obtain ⟨ll, lm⟩ := hlots lot (List.mem_of_getElem? hli)
    obtain ⟨hfi, hfl⟩ := hfall i
    have hnx : fd (i + 1) = addC (fd i) (lawCand k rows lot) := foldl_take _ [] hli
    generalize fd i = f at *
    have hown : ∀ r ∈ lot.map (fun i => rows.getD i []), r.length = k ∧ ∀ x ∈ r, x.natAbs < 2 ^ 42 := by
      intro r hr
      obtain ⟨n, hn, rfl⟩ := List.mem_map.mp hr
      have hn := lm n hn
      rw [List.getD_eq_getElem?_getD, List.getElem?_eq_getElem hn]
      exact hro _ (List.getElem_mem hn)
    have hownl : (lot.map (fun i => rows.getD i [])).length = k - 1 := by rw [List.length_map]; exact ll
    obtain ⟨p1, p2⟩ := point_ok hk hownl hown
    have gr : ∀ n ∈ lot, (rows.map rowD)[n]? = some (rowD (rows.getD n [])) := fun n hn => by
      have hn := lm n hn
      rw [List.getElem?_map, List.getD_eq_getElem?_getD, List.getElem?_eq_getElem hn]
      rfl
    refine hb_lcf 5 [("_law_k", 7)] [7] (xs := lot) (fun (n : Nat) => D.int (n : Int)) (fun n Γ => Γ.set 7 (some (.int (n : Nat)))) (fun n => rowD (rows.getD n [])) (i_list (x_var 4)) c_Lcorners.nd (blk n_Lcorners (defScope s_Lcorners)) (by omega) ?_ (O' := [(3, f.map chD)]) ?_ (fun q hq => by simp at hq; subst hq; simp) (by show 5 < 12; decide)
    · rintro n hn Y ⟨_, _, _, _, _, rfl⟩
      exact ⟨tg_name 7 c_Lcorners.nd, x_ixL (x_var 2) (x_var 7) (by rw [atI_nat]; exact gr n hn)⟩
    refine hb_frz ?_ (by simp)
    have eown : lot.map (fun n => rowD (rows.getD n [])) = (lot.map fun i => rows.getD i []).map rowD := by rw [List.map_map]; rfl
    rw [eown]
    have hcd : lawCand k rows lot = if (lawPoint k (lot.map fun i => rows.getD i [])).sum = 0 then none else if rows.all (fun r => decide (0 ≤ dotR k r (lawFlip (lawPoint k (lot.map fun i => rows.getD i []))))) = true then some ((lawFlip (lawPoint k (lot.map fun i => rows.getD i []))).map fun e => low e (absI (lawPoint k (lot.map fun i => rows.getD i [])).sum)) else none := rfl
    generalize lot.map (fun i => rows.getD i []) = own at *
    refine hb_own 6 (PL := (· = [])) (O' := [(3, f.map chD)]) (o_lst a_nil) (fun ds e => ?_) (fun q hq => by simp at hq; subst hq; simp) (by show 6 < 12; decide) c_Lcorners.nd
    subst e
    let cell : Nat → Int := fun j => detN (k - 1) (own.map fun r => r.take j ++ r.drop (j + 1)) * (if j % 2 = 0 then 1 else -1)
    refine hb_forN (α := Unit) 7 (n := (k : Nat)) (fun _ _ => True) (fun _ _ => [some (.int (k : Nat)), some (.tup (qs.map qD)), some (.lst (rows.map rowD)), none, none, some (.lst (own.map rowD)), none, none, none, none, none, none]) (fun j _ => [(6, ((List.range j).map cell).map D.int), (3, f.map chD)]) () (x_var 0) (by omega) (b_range T)
      trivial (fun _ _ _ s => s.sub (sub_same (sub_same (sub_same (sub_none (sub_none (sub_same (sub_none (sub_none (sub_none (sub_none (sub_none (sub_none sub_nil))))))))))))) (fun _ _ q hq => by simp at hq; rcases hq with e | e <;> subst e <;> simp) (fun j _ hlt _ => ?_) (fun _ _ => ?_) PassesOwn.never c_Lcorners.nd
    · have hj : j < k := by omega
      refine hb_app 6 (P := (· = .int (cell j))) (x_mulS (x_fnD (val := fun t => D.int (detN (k - 1) t)) (ok_Ldet T (k - 1) (by omega)) (own.map fun (r : List Int) => r.take j ++ r.drop (j + 1)) hr (a_cons (EvO.lst (EvO.is (o_lc [("_law_row", 11)] [11] (xs := own) rowD (fun r Γ => Γ.set 11 (some (rowD r))) (fun r => rowD (r.take j ++ r.drop (j + 1))) (i_list (x_var 5)) c_Lcorners.nd (blk n_Lcorners (defScope s_Lcorners)) (by omega) ?_) (ds' := (own.map fun (r : List Int) => r.take j ++ r.drop (j + 1)).map rowD) (by rw [List.map_map]; rfl))) a_nil) ⟨by rw [List.length_map]; exact hownl, ?_⟩ (by omega)) (x_if (PT := fun c => c = decide (V.int ((j : Int) % 2) = V.int 0)) (t_eq (x_mod (x_intI (b_int T) (x_var 7)) x_int (by decide)) x_int) (P := (· = .int (if j % 2 = 0 then 1 else -1))) (fun hc => ?_) (fun hc => ?_)) (.inr ?_)) (fun d e => hb_nil fun σ B' H' s' => ⟨(), trivial, ?_⟩) (by rw [List.length_map, List.length_map, List.length_range]; omega) (by simp)
      · rintro r hr' Y ⟨_, _, _, _, _, rfl⟩
        have hrl := (hown r hr').1
        refine ⟨tg_name 11 c_Lcorners.nd, EvO.lst (EvO.is (o_cat (xs := (r.take j).map D.int) (ys := (r.drop (j + 1)).map D.int) (Ev.is (EvO.lst (o_slL (x_var 11) ep_none (ep_some (i := (j : Nat)) (x_var 7)))) (by rw [cut_to (by omega)])) (Ev.is (EvO.lst (o_slL (x_var 11) (ep_some (i := ((j + 1 : Nat) : Int)) (Ev.is (x_add (x_var 7) x_int) (by simp))) ep_none)) (by rw [cut_from (by omega)])) ?_) (by rw [List.map_append]))⟩
        rw [List.length_map, List.length_map, List.length_take, List.length_drop]
        omega
      · intro r hr'
        obtain ⟨r', h1, rfl⟩ := List.mem_map.mp hr'
        obtain ⟨h2, h3⟩ := hown r' h1
        refine ⟨by rw [List.length_append, List.length_take, List.length_drop]; omega, fun x hx => ?_⟩
        rcases List.mem_append.mp hx with z | z
        · exact Nat.lt_trans (h3 x (List.mem_of_mem_take z)) (by decide)
        · exact Nat.lt_trans (h3 x (List.mem_of_mem_drop z)) (by decide)
      · refine x_int.is (congrArg D.int ?_)
        rw [dec_vint] at hc
        have : (j : Int) % 2 = 0 := by simpa using hc.symm
        rw [if_pos (by omega)]
      · refine (x_neg (i := 1) x_int).is (congrArg D.int ?_)
        rw [dec_vint] at hc
        have : ¬ ((j : Int) % 2 = 0) := by simpa using hc.symm
        rw [if_neg (by omega)]
      · split <;> decide
      · subst e
        rw [List.range_succ, List.map_append, List.map_append]
        exact s'.sub (sub_same (sub_same (sub_same (sub_none (sub_none (sub_same (sub_none (sub_none (sub_none (sub_none (sub_none (sub_none sub_nil)))))))))))) (by simp)
    · refine hb_frz ?_ (by simp)
      have ept : (List.range (k : Int).toNat).map cell = lawPoint k own := by rw [Int.toNat_natCast]; rfl
      rw [ept]
      generalize lawPoint k own = pt at *
      refine hb_asg 8 (O' := [(3, f.map chD)]) (P := (· = .int pt.sum)) (x_sum (b_sum T) (x_var 6)) ?_ (fun q hq => ⟨hq, by simp at hq; subst hq; simp⟩) c_Lcorners.nd
      rintro _ rfl
      have hsb := sum_bdN _ (by omega) p2
      refine hb_cons (M := fun σ B' H' => ∃ _y' : Unit, True ∧ S K J B H [some (.int (k : Nat)), some (.tup (qs.map qD)), some (.lst (rows.map rowD)), none, none, none, none, none, none, none, none, none] [(3, (fd (i + 1)).map chD)] σ B' H') (hs_if (PT := fun c => c = !decide (V.int pt.sum = V.int 0)) (t_ne (x_var 8) x_int) (fun hc => ?_) (fun hc => hb_nil fun σ B' H' s' => ⟨(), trivial, ?_⟩)) (hb_nil fun σ B' H' h => h)
      · rw [dec_vint] at hc
        have hne : ¬ (pt.sum = 0) := by simpa using hc.symm
        rw [if_neg hne] at hcd
        refine hb_own 6 (PL := (· = pt.map fun e => D.int (if 0 < pt.sum then e else 0 - e))) (o_lc [("_law_each", 10)] [10] (xs := pt) D.int (fun e Γ => Γ.set 10 (some (.int e))) (fun e => D.int (if 0 < pt.sum then e else 0 - e)) (i_list (x_var 6)) c_Lcorners.nd (blk n_Lcorners (defScope s_Lcorners)) (by omega) ?_) (O' := [(3, f.map chD)]) (fun ds e => ?_) (fun q hq => by simp at hq; subst hq; simp) (by show 6 < 12; decide) c_Lcorners.nd
        · rintro e he Y ⟨_, _, _, _, _, rfl⟩
          refine ⟨tg_name 10 c_Lcorners.nd, x_if (PT := fun c => c = decide (0 < pt.sum)) (t_gt (x_var 8) x_int) (fun hc => (x_var 10).is ?_) (fun hc => Ev.is (x_sub x_int (x_var 10)) ?_)⟩
          · rw [if_pos (by simpa using hc.symm)]
          · rw [if_neg (by simpa using hc.symm)]
        subst e
        refine hb_frz ?_ (by simp)
        have efl : (pt.map fun e => D.int (if 0 < pt.sum then e else 0 - e)) = (lawFlip pt).map D.int := by unfold lawFlip; rw [List.map_map]; rfl
        rw [efl]
        have q2 := flip_ok p2
        have q1 : (lawFlip pt).length = k := by unfold lawFlip; rw [List.length_map]; exact p1
        generalize lawFlip pt = fp at *
        obtain ⟨m0, hm0, hle0⟩ := minI_ex (rows.map fun r => dotR k r fp) (by rw [List.length_map]; omega)
        have hall : rows.all (fun r => decide (0 ≤ dotR k r fp)) = decide (0 ≤ m0) := by
          rw [Bool.eq_iff_iff, List.all_eq_true, decide_eq_true_iff]
          constructor
          · intro h
            obtain ⟨r, hr, e⟩ := List.mem_map.mp hm0
            have := h r hr
            rw [← e]
            simpa using this
          · intro h r hr
            have := hle0 _ (List.mem_map_of_mem hr)
            simp
            omega
        rw [hall] at hcd
        refine hb_cons (M := fun σ B' H' => ∃ _y' : Unit, True ∧ S K J B H [some (.int (k : Nat)), some (.tup (qs.map qD)), some (.lst (rows.map rowD)), none, none, none, none, none, none, none, none, none] [(3, (fd (i + 1)).map chD)] σ B' H') (hs_if (PT := fun c => c = decide (0 ≤ m0)) (t_ge (x_minL (ns := rows.map fun r => dotR k r fp) (b_min T) ?_ (by rw [List.length_map]; omega) (fun m hm hle => ?_)) x_int) (fun hc => ?_) (fun hc => hb_nil fun σ B' H' s' => ⟨(), trivial, ?_⟩)) (hb_nil fun σ B' H' h => h)
        · refine EvO.lst (EvO.is (o_lc [("_law_row", 11)] [11] (xs := rows) rowD (fun r Γ => Γ.set 11 (some (rowD r))) (fun r => D.int (dotR k r fp)) (i_list (x_var 2)) c_Lcorners.nd (blk n_Lcorners (defScope s_Lcorners)) (by omega) ?_) (ds' := (rows.map fun r => dotR k r fp).map D.int) (by rw [List.map_map]; rfl))
          rintro r hr' Y ⟨_, _, _, _, _, rfl⟩
          have hrk := hro r hr'
          refine ⟨tg_name 11 c_Lcorners.nd, x_sum (ns := (List.range k).map fun j => r.getD j 0 * fp.getD j 0) (b_sum T) (EvO.lst (EvO.is (o_lc [("_law_k", 7)] [7] (xs := List.range k) (fun (i : Nat) => D.int (i : Int)) (fun i Γ => Γ.set 7 (some (.int (i : Nat)))) (fun i => D.int (r.getD i 0 * fp.getD i 0)) (i_range1 (n := (k : Nat)) (x_var 0) (by omega) (b_range T)) c_Lcorners.nd ⟨rfl, by decide +kernel, fun p hp => by (have : p = (("_law_k" : Str), 7) := by simpa using hp); subst this; rfl, fun y hy e => ?_, fun y hy e => ?_⟩ (by rw [List.length_range]; omega) ?_) (by rw [List.map_map]; rfl)))⟩
          · have : y.1 = ("_law_row" : Str) ∨ y.1 = ("_law_point" : Str) := by
              revert y
              decide +kernel
            rcases this with e2 | e2 <;> rw [e2]
            · first | exact .inl rfl | exact .inr rfl
            · first | exact .inl rfl | exact .inr rfl
          · have : y.1 = ("_law_k" : Str) ∨ y.1 = (".0" : Str) := by
              revert y
              decide +kernel
            rcases this with e2 | e2 <;> rw [e2]
            · exact .inl (by decide)
            · exact .inr (show (".0" : Str) ∉ n_Lcorners by decide +kernel)
          · rintro i hi Z ⟨_, _, _, _, _, rfl⟩
            have hi := List.mem_range.mp hi
            have gr1 : r[i]? = some (r.getD i 0) := by rw [List.getD_eq_getElem?_getD, List.getElem?_eq_getElem (by omega)]; rfl
            have gf1 : fp[i]? = some (fp.getD i 0) := by rw [List.getD_eq_getElem?_getD, List.getElem?_eq_getElem (by omega)]; rfl
            have b1 := hrk.2 _ (List.mem_of_getElem? gr1)
            refine ⟨tg_name 7 c_Lcorners.nd, x_mulS (x_ixL (x_var 11) (x_var 7) (d := .int (r.getD i 0)) (by rw [atI_nat, List.getElem?_map, gr1]; rfl)) (x_ixL (x_var 6) (x_var 7) (d := .int (fp.getD i 0)) (by rw [atI_nat, List.getElem?_map, gf1]; rfl)) (.inl ?_)⟩
            have e42 : (2 : Nat) ^ 42 = 4398046511104 := by decide
            rw [e42] at b1
            omega
        · exact congrArg D.int (by have := hle _ hm0; have := hle0 _ hm; omega)
        · rw [if_pos (by simpa using hc.symm)] at hcd
          have hc90 := hcand ll lm hcd
          rw [hcd] at hnx
          have hsz : ∀ e ∈ fp, Sz 90 (e, absI pt.sum) := fun e he => by
            refine ⟨bd_mono (q2 e he) (by decide), ?_, ?_⟩
            · show 0 < absI _
              unfold absI
              split <;> omega
            · refine bd_mono (m := 88) ?_ (by decide)
              show (absI _).natAbs < _
              unfold absI
              split
              · rw [Int.natAbs_neg]; exact hsb
              · exact hsb
          refine hb_asg 9 (O' := [(3, f.map chD)]) (P := (· = chD (fp.map fun e => low e (absI pt.sum)))) (x_tuple (b_tuple T) (EvO.lst (EvO.is (o_lc [("_law_each", 10)] [10] (xs := fp) D.int (fun e Γ => Γ.set 10 (some (.int e))) (fun e => frD (low e (absI pt.sum))) (i_list (x_var 6)) c_Lcorners.nd (blk n_Lcorners (defScope s_Lcorners)) (by omega) ?_) (ds' := (fp.map fun e => low e (absI pt.sum)).map frD) (by rw [List.map_map]; rfl)))) ?_ (fun q hq => ⟨hq, by simp at hq; subst hq; simp⟩) c_Lcorners.nd
          · rintro e he Y ⟨_, _, _, _, _, rfl⟩
            exact ⟨tg_name 10 c_Lcorners.nd, x_fnD (ok_Llow T) (e, absI pt.sum) hr (a_cons (x_var 10) (a_cons (x_abs (b_abs T) (x_var 8)) a_nil)) (sz_mono (hsz e he) (by decide))⟩
          rintro _ rfl
          generalize (fp.map fun e => low e (absI pt.sum)) = cn at *
          refine hb_cons (M := fun σ B' H' => ∃ _y' : Unit, True ∧ S K J B H [some (.int (k : Nat)), some (.tup (qs.map qD)), some (.lst (rows.map rowD)), none, none, none, none, none, none, none, none, none] [(3, (fd (i + 1)).map chD)] σ B' H') (hs_ifOwn 3 (PT := fun c => c = !decide (cn ∈ f)) (t_notInD (r := decide (cn ∈ f)) hr (x_var 9) (x_var 3) ?_ ?_ ?_ ?_ ?_) (by simp) (fun hc => hb_app 3 (P := (· = chD cn)) (x_var 9) (fun d e => hb_nil fun σ B' H' s' => ⟨(), trivial, ?_⟩) (by rw [List.length_map]; omega) (by simp)) (fun hc => hb_nil fun σ B' H' s' => ⟨(), trivial, ?_⟩)) (hb_nil fun σ B' H' h => h)
          · exact pl_chD _
          · exact (pls_chDs _).1
          · exact dpt_chD _
          · exact (pls_chDs _).2
          · rw [decide_eq_true_iff]; exact mem_chD.symm
          · subst e
            have : ¬ (cn ∈ f) := by simpa using hc.symm
            rw [hnx, addC, if_neg this, List.map_append]
            exact s'.sub (sub_same (sub_same (sub_same (sub_none (sub_none (sub_none (sub_none (sub_none (sub_none (sub_none (sub_none (sub_none sub_nil)))))))))))) (by simp)
          · have : cn ∈ f := by simpa using hc.symm
            rw [hnx, addC, if_pos this]
            exact s'.sub (sub_same (sub_same (sub_same (sub_none (sub_none (sub_none (sub_none (sub_none (sub_none (sub_none (sub_none (sub_none sub_nil)))))))))))) (by simp)
        · rw [if_neg (by simpa using hc.symm)] at hcd
          rw [hnx, hcd]
          exact s'.sub (sub_same (sub_same (sub_same (sub_none (sub_none (sub_none (sub_none (sub_none (sub_none (sub_none (sub_none (sub_none sub_nil)))))))))))) (by simp [addC])
      · rw [dec_vint] at hc
        have he0 : pt.sum = 0 := by simpa using hc.symm
        rw [if_pos he0] at hcd
        rw [hnx, hcd]
        exact s'.sub (sub_same (sub_same (sub_same (sub_none (sub_none (sub_none (sub_none (sub_none (sub_none (sub_none (sub_none (sub_none sub_nil)))))))))))) (by simp [addC])
  · refine hb_frz (hb_ret (x_fnD (ok_Lin_order T) (fd lots.length) hr (a_cons (x_var 3) a_nil) ⟨(hfall _).2, k, by omega, fun x hx => ⟨((hfall _).1 x hx).1, fun c hc => sz_mono (((hfall _).1 x hx).2 c hc) (by decide)⟩⟩) fun d e => ?_)
    rw [e]
    show D.lst ((inOrd ((lots.take lots.length).foldl _ [])).map chD) = _
    rw [List.take_length]
end
end Z
end
section
set_option Elab.async false
set_option linter.all false
set_option maxRecDepth 100000
set_option maxHeartbeats 400000
namespace Z
open PySem PySem.Spec PyProof.Rows L2 RZ
/-! ### the law's corners: plain -/
theorem addC_mem {c : List Fr} {f : List (List Fr)} {o : Option (List Fr)} : c ∈ addC f o ↔ c ∈ f ∨ o = some c := by
  cases o with
  | none => simp [addC]
  | some x =>
    unfold addC
    dsimp only
    by_cases h : x ∈ f
    · rw [if_pos h]
      constructor
      · exact .inl
      · rintro (h2 | h2)
        · exact h2
        · injection h2 with h2
          rw [← h2]; exact h
    · rw [if_neg h, List.mem_append, List.mem_singleton]
      constructor
      · rintro (h2 | h2)
        · exact .inl h2
        · exact .inr (by rw [h2])
      · rintro (h2 | h2)
        · exact .inl h2
        · injection h2 with h2
          exact .inr h2.symm
theorem foldC_mem {c : List Fr} (g : List Nat → Option (List Fr)) : ∀ (ls : List (List Nat)) (f : List (List Fr)), c ∈ ls.foldl (fun f l => addC f (g l)) f ↔ c ∈ f ∨ ∃ l ∈ ls, g l = some c
  | [], f => by simp
  | l :: ls, f => by
    rw [List.foldl_cons, foldC_mem g ls, addC_mem, or_assoc]
    simp only [List.mem_cons, exists_eq_or_imp]
theorem lawCor_mem {k : Nat} {qs : List Qt} {c : List Fr} : c ∈ lawCor k qs ↔ ∃ lot ∈ lotsN (lawRows k qs).length (k - 1), lawCand k (lawRows k qs) lot = some c := by
  unfold lawCor
  rw [inOrd_mem, foldC_mem]
  simp
theorem lot_one {n i : Nat} : i < n → [i] ∈ lotsN n 1 := fun h => by
  refine List.mem_flatMap.mpr ⟨[], by simp [lotsN], ?_⟩
  unfold lotExt
  refine List.mem_map.mpr ⟨i, List.mem_range.mpr (by show i < n - lotStart []; simp [lotStart]; exact h), ?_⟩
  simp [lotStart]
theorem lot_two {n i j : Nat} (h : i < j) (hj : j < n) : [i, j] ∈ lotsN n 2 := by
  refine List.mem_flatMap.mpr ⟨[i], lot_one (by omega), ?_⟩
  unfold lotExt
  refine List.mem_map.mpr ⟨j - (i + 1), List.mem_range.mpr (by show j - (i + 1) < n - lotStart [i]; simp [lotStart]; omega), ?_⟩
  simp [lotStart]
  omega
/-! rows as vectors -/
def v3 (k : Nat) (r : List Int) : LP.V3 := (r.getD 0 0, r.getD 1 0, if k = 2 then 0 else r.getD 2 0)
theorem dotR_v3 {k : Nat} (hk : k = 2 ∨ k = 3) (r p : List Int) : dotR k r p = LP.dot (v3 k r) (v3 k p) := by
  unfold dotR LP.dot v3
  rcases hk with rfl | rfl
  · have e : List.range 2 = [0, 1] := rfl
    rw [e]
    simp
  · have e : List.range 3 = [0, 1, 2] := rfl
    rw [e]
    simp
    omega
theorem v3_unit {k j : Nat} (hk : k = 2 ∨ k = 3) (hj : j < k) : v3 k (unitRow k j) = LP.e3 j := by
  rcases hk with rfl | rfl
  · have : j = 0 ∨ j = 1 := by omega
    rcases this with rfl | rfl <;> rfl
  · have : j = 0 ∨ j = 1 ∨ j = 2 := by omega
    rcases this with rfl | rfl | rfl <;> rfl
def qRow (q : Qt) : List Int := q.1.map fun n => n * q.2.2 - q.2.1
theorem v3_quote {k : Nat} (hk : k = 2 ∨ k = 3) {qs : List Qt} {j : Nat} {q : Qt} (h : QtOk k q) (e : qs[j]? = some q) : v3 k (qRow q) = g3 k qs j := by
  unfold g3
  rw [e]
  have hl := h.len
  obtain ⟨pay, pr⟩ := q
  rcases hk with rfl | rfl
  · match pay, hl with
    | [a, b], _ => simp [v3, qRow, gain]
  · match pay, hl with
    | [a, b, c], _ => simp [v3, qRow, gain]
theorem rows_at {k : Nat} {qs : List Qt} {i : Nat} (hi : i < (lawRows k qs).length) : (i < k ∧ (lawRows k qs).getD i [] = unitRow k i) ∨ ∃ j q, i = k + j ∧ qs[j]? = some q ∧ (lawRows k qs).getD i [] = qRow q := by
  have hl := rows_len k qs
  have hi' : i < k + qs.length := by rw [← hl]; exact hi
  clear hl
  unfold lawRows at hi ⊢
  by_cases h : i < k
  · refine .inl ⟨h, ?_⟩
    rw [List.getD_eq_getElem?_getD, List.getElem?_append_left (by rw [List.length_map, List.length_range]; exact h), List.getElem?_map, List.getElem?_range h]
    rfl
  · have hj : i - k < qs.length := by omega
    refine .inr ⟨i - k, qs[i - k], by omega, List.getElem?_eq_getElem hj, ?_⟩
    rw [List.getD_eq_getElem?_getD, List.getElem?_append_right (by rw [List.length_map, List.length_range]; omega), List.length_map, List.length_range, List.getElem?_map, List.getElem?_eq_getElem hj]
    rfl
theorem row_unit {k : Nat} {qs : List Qt} {j : Nat} (hj : j < k) : (lawRows k qs).getD j [] = unitRow k j := by
  unfold lawRows
  rw [List.getD_eq_getElem?_getD, List.getElem?_append_left (by rw [List.length_map, List.length_range]; exact hj), List.getElem?_map, List.getElem?_range hj]
  rfl
theorem row_quote {k : Nat} {qs : List Qt} {j : Nat} {q : Qt} (e : qs[j]? = some q) : (lawRows k qs).getD (k + j) [] = qRow q := by
  unfold lawRows
  rw [List.getD_eq_getElem?_getD, List.getElem?_append_right (by rw [List.length_map, List.length_range]; omega), List.length_map, List.length_range, List.getElem?_map, show k + j - k = j by omega, e]
  rfl
theorem rw_rows {k : Nat} (hk : k = 2 ∨ k = 3) {qs : List Qt} (hq : ∀ q ∈ qs, QtOk k q) {v : LP.V3} : Rw (k, qs) v ↔ ∃ i, i < (lawRows k qs).length ∧ v = v3 k ((lawRows k qs).getD i []) := by
  have hl := rows_len k qs
  constructor
  · rintro (⟨x, hx, rfl⟩ | ⟨j, hj, rfl⟩)
    · have hx : x < k := hx
      exact ⟨x, by omega, by rw [row_unit hx, v3_unit hk hx]⟩
    · have hj : j < qs.length := hj
      refine ⟨k + j, by omega, ?_⟩
      have e : qs[j]? = some qs[j] := List.getElem?_eq_getElem hj
      rw [row_quote e, v3_quote hk (hq _ (List.getElem_mem hj)) e]
  · rintro ⟨i, hi, rfl⟩
    rcases rows_at hi with ⟨h, e⟩ | ⟨j, q, rfl, e, e2⟩
    · exact .inl ⟨i, h, by rw [e, v3_unit hk h]⟩
    · refine .inr ⟨j, (List.getElem?_eq_some_iff.mp e).1, ?_⟩
      rw [e2, v3_quote hk (hq q (List.mem_of_getElem? e)) e]
theorem dot_e0 (x : LP.V3) : LP.dot (LP.e3 0) x = x.1 := by
  show 1 * x.1 + 0 * x.2.1 + 0 * x.2.2 = x.1
  omega
theorem dot_e1 (x : LP.V3) : LP.dot (LP.e3 1) x = x.2.1 := by
  show 0 * x.1 + 1 * x.2.1 + 0 * x.2.2 = x.2.1
  omega
theorem dot_e2 (x : LP.V3) : LP.dot (LP.e3 2) x = x.2.2 := by
  show 0 * x.1 + 0 * x.2.1 + 1 * x.2.2 = x.2.2
  omega
theorem feas_rows {k : Nat} (hk : k = 2 ∨ k = 3) {qs : List Qt} (hq : ∀ q ∈ qs, QtOk k q) {x : LP.V3} : FeasB (k, qs) x ↔ (k = 2 → x.2.2 = 0) ∧ 0 < LP.tot x ∧ ∀ r ∈ lawRows k qs, 0 ≤ LP.dot (v3 k r) x := by
  have hl := rows_len k qs
  constructor
  · intro F
    refine ⟨F.z, F.pos, fun r hr => ?_⟩
    obtain ⟨i, hi, rfl⟩ := List.getElem_of_mem hr
    have e0 : (lawRows k qs).getD i [] = (lawRows k qs)[i] := by rw [List.getD_eq_getElem?_getD, List.getElem?_eq_getElem hi]; rfl
    rw [← e0]
    rcases (rw_rows hk hq).mpr ⟨i, hi, rfl⟩ with ⟨y, hy, e⟩ | ⟨j, hj, e⟩
    · rw [e]
      obtain ⟨n1, n2, n3⟩ := F.nn
      have hy : y < k := hy
      have : y = 0 ∨ y = 1 ∨ y = 2 := by omega
      rcases this with rfl | rfl | rfl
      · rw [dot_e0]; exact n1
      · rw [dot_e1]; exact n2
      · rw [dot_e2]; exact n3
    · rw [e]
      exact F.keep j hj
  · rintro ⟨z, p, h⟩
    have hu : ∀ j, j < k → 0 ≤ LP.dot (LP.e3 j) x := fun j hj => by
      rw [← v3_unit hk hj, ← row_unit (qs := qs) hj]
      refine h _ ?_
      rw [List.getD_eq_getElem?_getD, List.getElem?_eq_getElem (by omega)]
      exact List.getElem_mem (by omega)
    have h0 := hu 0 (by omega)
    have h1 := hu 1 (by omega)
    rw [dot_e0] at h0
    rw [dot_e1] at h1
    refine ⟨⟨by omega, by omega, ?_⟩, z, p, fun j hj => ?_⟩
    · rcases hk with h2 | h3
      · rw [z h2]; exact Int.le_refl 0
      · have h2 := hu 2 (by omega)
        rw [dot_e2] at h2
        exact h2
    · have hj : j < qs.length := hj
      have e : qs[j]? = some qs[j] := List.getElem?_eq_getElem hj
      show 0 ≤ LP.dot (g3 k qs j) x
      rw [← v3_quote hk (hq _ (List.getElem_mem hj)) e, ← row_quote (k := k) e]
      refine h _ ?_
      rw [List.getD_eq_getElem?_getD, List.getElem?_eq_getElem (by omega)]
      exact List.getElem_mem (by omega)
/-! points -/
def lst3 (k : Nat) (x : LP.V3) : List Int := if k = 2 then [x.1, x.2.1] else [x.1, x.2.1, x.2.2]
theorem lst3_v3 {k : Nat} (hk : k = 2 ∨ k = 3) {p : List Int} (h : p.length = k) : lst3 k (v3 k p) = p := by
  rcases hk with rfl | rfl
  · match p, h with
    | [a, b], _ => rfl
  · match p, h with
    | [a, b, c], _ => rfl
theorem sum_lst3 {k : Nat} (hk : k = 2 ∨ k = 3) {x : LP.V3} (z : k = 2 → x.2.2 = 0) : (lst3 k x).sum = LP.tot x := by
  unfold lst3 LP.tot
  rcases hk with rfl | rfl
  · rw [if_pos rfl, z rfl]; simp
  · rw [if_neg (by decide)]; simp; omega
def canon (k : Nat) (x : LP.V3) : List Fr := (lst3 k x).map fun e => low e (LP.tot x)
theorem flip_v3 {k : Nat} (hk : k = 2 ∨ k = 3) {p : List Int} (h : p.length = k) : lawFlip p = lst3 k (if 0 < p.sum then v3 k p else LP.ngv (v3 k p)) := by
  unfold lawFlip
  rcases hk with rfl | rfl
  · match p, h with
    | [a, b], _ =>
      by_cases hs : 0 < ([a, b] : List Int).sum
      · simp only [if_pos hs]; rfl
      · simp only [if_neg hs, List.map_cons, List.map_nil]
        simp [lst3, LP.ngv, v3]
  · match p, h with
    | [a, b, c], _ =>
      by_cases hs : 0 < ([a, b, c] : List Int).sum
      · simp only [if_pos hs]; rfl
      · simp only [if_neg hs, List.map_cons, List.map_nil]
        simp [lst3, LP.ngv, v3]
theorem v3_lst3 {k : Nat} (hk : k = 2 ∨ k = 3) {x : LP.V3} (z : k = 2 → x.2.2 = 0) : v3 k (lst3 k x) = x := by
  obtain ⟨a, b, c⟩ := x
  rcases hk with rfl | rfl
  · have := z rfl
    dsimp only at this
    subst this
    rfl
  · rfl
theorem tot_ngv (x : LP.V3) : LP.tot (LP.ngv x) = -LP.tot x := by
  unfold LP.tot LP.ngv
  dsimp only
  omega
theorem sum_v3 {k : Nat} (hk : k = 2 ∨ k = 3) {p : List Int} (h : p.length = k) : p.sum = LP.tot (v3 k p) := by
  have := sum_lst3 hk (x := v3 k p) (fun h2 => by unfold v3; simp [h2])
  rw [lst3_v3 hk h] at this
  exact this
/-- what a lot gives, by its vector -/
theorem cand_v3 {k : Nat} (hk : k = 2 ∨ k = 3) {qs : List Qt} (hq : ∀ q ∈ qs, QtOk k q) {lot : List Nat} {v : LP.V3} (hv : v3 k (lawPoint k (lot.map fun i => (lawRows k qs).getD i [])) = v) (hl : (lawPoint k (lot.map fun i => (lawRows k qs).getD i [])).length = k) (c : List Fr) :
    lawCand k (lawRows k qs) lot = some c ↔ ∃ x, FeasB (k, qs) x ∧ (x = v ∨ x = LP.ngv v) ∧ c = canon k x := by
  have hd : lawCand k (lawRows k qs) lot = if (lawPoint k (lot.map fun i => (lawRows k qs).getD i [])).sum = 0 then none else if (lawRows k qs).all (fun r => decide (0 ≤ dotR k r (lawFlip (lawPoint k (lot.map fun i => (lawRows k qs).getD i []))))) = true then some ((lawFlip (lawPoint k (lot.map fun i => (lawRows k qs).getD i []))).map fun e => low e (absI (lawPoint k (lot.map fun i => (lawRows k qs).getD i [])).sum)) else none := rfl
  rw [hd]
  clear hd
  generalize lawPoint k (lot.map fun i => (lawRows k qs).getD i []) = p at *
  have hs := sum_v3 hk hl
  have hf := flip_v3 hk hl
  have vz : k = 2 → v.2.2 = 0 := fun h2 => by rw [← hv]; unfold v3; simp [h2]
  rw [hv] at hs hf
  -- the flipped one
  have main : ∀ x : LP.V3, x = (if 0 < p.sum then v else LP.ngv v) → p.sum ≠ 0 → ((k = 2 → x.2.2 = 0) ∧ 0 < LP.tot x ∧ absI p.sum = LP.tot x ∧ lawFlip p = lst3 k x ∧ (x = v ∨ x = LP.ngv v)) := fun x hx hne => by
    rw [hf, ← hx]
    by_cases h : 0 < p.sum
    · rw [if_pos h] at hx
      subst hx
      refine ⟨vz, by omega, ?_, rfl, .inl rfl⟩
      unfold absI
      rw [if_neg (by omega)]
      exact hs
    · rw [if_neg h] at hx
      subst hx
      have t := tot_ngv v
      refine ⟨fun h2 => by unfold LP.ngv; dsimp only; rw [vz h2]; rfl, by omega, ?_, rfl, .inr rfl⟩
      unfold absI
      rw [if_pos (by omega)]
      omega
  constructor
  · intro h
    by_cases h0 : p.sum = 0
    · rw [if_pos h0] at h; cases h
    · rw [if_neg h0] at h
      obtain ⟨m1, m2, m3, m4, m5⟩ := main _ rfl h0
      generalize (if 0 < p.sum then v else LP.ngv v) = x at *
      split at h
      · rename_i ha
        rw [List.all_eq_true] at ha
        injection h with h
        refine ⟨x, (feas_rows hk hq).mpr ⟨m1, m2, fun r hr => ?_⟩, m5, ?_⟩
        · have := ha r hr
          rw [m4, dotR_v3 hk, v3_lst3 hk m1] at this
          simpa using this
        · rw [← h, m4, m3]
          rfl
      · cases h
  · rintro ⟨x, F, hx, rfl⟩
    have hp := F.pos
    have t := tot_ngv v
    have h0 : p.sum ≠ 0 := by
      rcases hx with rfl | rfl <;> omega
    have ex : x = if 0 < p.sum then v else LP.ngv v := by
      rcases hx with rfl | rfl
      · rw [if_pos (by omega)]
      · rw [if_neg (by omega)]
    obtain ⟨m1, m2, m3, m4, m5⟩ := main x ex h0
    rw [if_neg h0, if_pos, m4, m3]
    · rfl
    · rw [List.all_eq_true]
      intro r hr
      rw [m4, dotR_v3 hk, v3_lst3 hk m1]
      exact decide_eq_true (((feas_rows hk hq).mp F).2.2 r hr)
theorem point_v3_2 (r : List Int) (h : r.length = 2) : v3 2 (lawPoint 2 [r]) = LP.cross (v3 2 r) (LP.e3 2) ∧ (lawPoint 2 [r]).length = 2 := by
  match r, h with
  | [a, b], _ =>
    rw [point2]
    refine ⟨?_, rfl⟩
    simp [v3, LP.cross, LP.e3]
theorem point_v3_3 (r s : List Int) (h : r.length = 3) (h' : s.length = 3) : v3 3 (lawPoint 3 [r, s]) = LP.cross (v3 3 r) (v3 3 s) ∧ (lawPoint 3 [r, s]).length = 3 := by
  match r, s, h, h' with
  | [a, b, c], [d, e, f], _, _ =>
    rw [point3]
    refine ⟨?_, rfl⟩
    simp [v3, LP.cross]
    grind
theorem cross_self (c : LP.V3) : LP.tot (LP.cross c c) = 0 := by
  unfold LP.tot LP.cross
  dsimp only
  grind
theorem cross_swap (c d : LP.V3) : LP.cross c d = LP.ngv (LP.cross d c) := by
  unfold LP.ngv LP.cross
  dsimp only
  refine Prod.ext ?_ (Prod.ext ?_ ?_) <;> dsimp only <;> grind
theorem ngv_ngv (x : LP.V3) : LP.ngv (LP.ngv x) = x := by
  obtain ⟨a, b, c⟩ := x
  simp [LP.ngv]
/-- the law's corners are the canonical forms of the feasible corner vectors -/
theorem cor_iff {k : Nat} (hk : k = 2 ∨ k = 3) {qs : List Qt} (hq : ∀ q ∈ qs, QtOk k q) {c : List Fr} : c ∈ lawCor k qs ↔ ∃ x, FeasB (k, qs) x ∧ CorV (k, qs) x ∧ c = canon k x := by
  rw [lawCor_mem]
  have hro := fun i (hi : i < (lawRows k qs).length) => (rows_ok hq ((lawRows k qs).getD i []) (by rw [List.getD_eq_getElem?_getD, List.getElem?_eq_getElem hi]; exact List.getElem_mem hi)).1
  rcases hk with rfl | rfl
  · constructor
    · rintro ⟨lot, hlot, hc⟩
      obtain ⟨l1, l2⟩ := lots_ok _ _ lot hlot
      obtain ⟨i, rfl⟩ : ∃ i, lot = [i] := by
        match lot, l1 with
        | [i], _ => exact ⟨i, rfl⟩
      have hi := l2 i (by simp)
      obtain ⟨p1, p2⟩ := point_v3_2 _ (hro i hi)
      obtain ⟨x, F, hx, e⟩ := (cand_v3 (.inl rfl) hq (lot := [i]) p1 p2 c).mp hc
      exact ⟨x, F, ⟨_, _, (rw_rows (.inl rfl) hq).mpr ⟨i, hi, rfl⟩, fun _ => rfl, (fun h => by cases h), hx⟩, e⟩
    · rintro ⟨x, F, ⟨a, d, ha, hd, _, hx⟩, e⟩
      obtain ⟨i, hi, rfl⟩ := (rw_rows (.inl rfl) hq).mp ha
      have hd := hd rfl
      subst hd
      obtain ⟨p1, p2⟩ := point_v3_2 _ (hro i hi)
      exact ⟨[i], lot_one hi, (cand_v3 (.inl rfl) hq (lot := [i]) p1 p2 c).mpr ⟨x, F, hx, e⟩⟩
  · constructor
    · rintro ⟨lot, hlot, hc⟩
      obtain ⟨l1, l2⟩ := lots_ok _ _ lot hlot
      obtain ⟨i, j, rfl⟩ : ∃ i j, lot = [i, j] := by
        match lot, l1 with
        | [i, j], _ => exact ⟨i, j, rfl⟩
      have hi := l2 i (by simp)
      have hj := l2 j (by simp)
      obtain ⟨p1, p2⟩ := point_v3_3 _ _ (hro i hi) (hro j hj)
      obtain ⟨x, F, hx, e⟩ := (cand_v3 (.inr rfl) hq (lot := [i, j]) p1 p2 c).mp hc
      exact ⟨x, F, ⟨_, _, (rw_rows (.inr rfl) hq).mpr ⟨i, hi, rfl⟩, (fun h => by cases h), fun _ => (rw_rows (.inr rfl) hq).mpr ⟨j, hj, rfl⟩, hx⟩, e⟩
    · rintro ⟨x, F, ⟨a, d, ha, _, hd, hx⟩, e⟩
      obtain ⟨i, hi, rfl⟩ := (rw_rows (.inr rfl) hq).mp ha
      obtain ⟨j, hj, rfl⟩ := (rw_rows (.inr rfl) hq).mp (hd rfl)
      have hp := F.pos
      rcases Nat.lt_trichotomy i j with h | h | h
      · obtain ⟨p1, p2⟩ := point_v3_3 _ _ (hro i hi) (hro j hj)
        exact ⟨[i, j], lot_two h hj, (cand_v3 (.inr rfl) hq (lot := [i, j]) p1 p2 c).mpr ⟨x, F, hx, e⟩⟩
      · subst h
        have z := cross_self (v3 3 ((lawRows 3 qs).getD i []))
        have t := tot_ngv (LP.cross (v3 3 ((lawRows 3 qs).getD i [])) (v3 3 ((lawRows 3 qs).getD i [])))
        rcases hx with rfl | rfl <;> omega
      · obtain ⟨p1, p2⟩ := point_v3_3 _ _ (hro j hj) (hro i hi)
        refine ⟨[j, i], lot_two h hi, (cand_v3 (.inr rfl) hq (lot := [j, i]) p1 p2 c).mpr ⟨x, F, ?_, e⟩⟩
        rcases hx with rfl | rfl
        · exact .inr (cross_swap _ _)
        · refine .inl ?_
          rw [cross_swap, ngv_ngv]
end Z
end
section
set_option Elab.async false
set_option linter.all false
set_option maxRecDepth 100000
set_option maxHeartbeats 400000
namespace Z
open PySem PySem.Spec PyProof.Rows L2 RZ
/-! ### least of some fractions: plain -/
def fle (a b : Fr) : Prop := a.1 * b.2 ≤ b.1 * a.2
theorem fless_iff {a b : Fr} : fless b a = false ↔ fle a b := by
  unfold fless fle
  rw [decide_eq_false_iff_not, Int.not_lt]
theorem fle_refl (a : Fr) : fle a a := Int.le_refl _
theorem fle_trans {a b c : Fr} (ha : 0 < a.2) (hb : 0 < b.2) (hc : 0 < c.2) (h : fle a b) (k : fle b c) : fle a c := by
  unfold fle at *
  have h1 : a.1 * b.2 * c.2 ≤ b.1 * a.2 * c.2 := Int.mul_le_mul_of_nonneg_right h (Int.le_of_lt hc)
  have h2 : b.1 * c.2 * a.2 ≤ c.1 * b.2 * a.2 := Int.mul_le_mul_of_nonneg_right k (Int.le_of_lt ha)
  have h3 : (a.1 * c.2) * b.2 ≤ (c.1 * a.2) * b.2 := by
    have e1 : (a.1 * c.2) * b.2 = a.1 * b.2 * c.2 := by grind
    have e2 : b.1 * a.2 * c.2 = b.1 * c.2 * a.2 := by grind
    have e3 : (c.1 * a.2) * b.2 = c.1 * b.2 * a.2 := by grind
    omega
  exact Int.le_of_mul_le_mul_right h3 hb
theorem fle_total (a b : Fr) : fle a b ∨ fle b a := by
  unfold fle
  omega
structure Can (f : Fr) : Prop where
  pos : 0 < f.2
  cop : Int.gcd f.1 f.2 = 1
def IsMin (S : List Fr) (f : Fr) : Prop := f ∈ S ∧ ∀ g ∈ S, fle f g
def IsMax (S : List Fr) (f : Fr) : Prop := f ∈ S ∧ ∀ g ∈ S, fle g f
theorem IsMin.uniq {S : List Fr} {f g : Fr} (hS : ∀ g ∈ S, Can g) (h : IsMin S f) (k : IsMin S g) : f = g :=
  frac_ext (hS f h.1).pos (hS g k.1).pos (hS f h.1).cop (hS g k.1).cop (Int.le_antisymm (h.2 g k.1) (k.2 f h.1))
theorem fold_min : ∀ (xs : List Fr) (x : Fr), (∀ g ∈ x :: xs, 0 < g.2) → IsMin (x :: xs) (xs.foldl (fun f o => if fless o f then o else f) x)
  | [], x, h => ⟨List.mem_cons_self, fun g hg => by rw [List.mem_singleton.mp hg]; exact fle_refl x⟩
  | y :: ys, x, h => by
    rw [List.foldl_cons]
    have hx := h x List.mem_cons_self
    have hy := h y (List.mem_cons_of_mem _ List.mem_cons_self)
    have c : ∃ z, (if fless y x = true then y else x) = z ∧ (z = x ∨ z = y) ∧ fle z x ∧ fle z y := by
      by_cases q : fless y x = true
      · refine ⟨y, if_pos q, .inr rfl, ?_, fle_refl y⟩
        unfold fless at q
        have q := of_decide_eq_true q
        unfold fle
        omega
      · refine ⟨x, if_neg q, .inl rfl, fle_refl x, ?_⟩
        exact fless_iff.mp (by cases e : fless y x with | false => rfl | true => exact absurd e q)
    obtain ⟨z, e, ez, l1, l2⟩ := c
    rw [e]
    have hz : 0 < z.2 := by rcases ez with rfl | rfl <;> assumption
    obtain ⟨m1, m2⟩ := fold_min ys z fun g hg => by
      rcases List.mem_cons.mp hg with q | q
      · rw [q]; exact hz
      · exact h g (List.mem_cons_of_mem _ (List.mem_cons_of_mem _ q))
    have mem : ∀ r, r ∈ z :: ys → r ∈ x :: y :: ys := fun r hr => by
      rcases List.mem_cons.mp hr with q | q
      · rw [q]
        rcases ez with e | e <;> rw [e] <;> simp
      · exact List.mem_cons_of_mem _ (List.mem_cons_of_mem _ q)
    have hr := h _ (mem _ m1)
    refine ⟨mem _ m1, fun g hg => ?_⟩
    have mz := m2 z List.mem_cons_self
    rcases List.mem_cons.mp hg with q | q
    · rw [q]; exact fle_trans hr hz hx mz l1
    · rcases List.mem_cons.mp q with q | q
      · rw [q]; exact fle_trans hr hz hy mz l2
      · exact m2 g (List.mem_cons_of_mem _ q)
theorem fold_max : ∀ (xs : List Fr) (x : Fr), (∀ g ∈ x :: xs, 0 < g.2) → IsMax (x :: xs) (xs.foldl (fun f o => if fless f o then o else f) x)
  | [], x, h => ⟨List.mem_cons_self, fun g hg => by rw [List.mem_singleton.mp hg]; exact fle_refl x⟩
  | y :: ys, x, h => by
    rw [List.foldl_cons]
    have hx := h x List.mem_cons_self
    have hy := h y (List.mem_cons_of_mem _ List.mem_cons_self)
    have c : ∃ z, (if fless x y = true then y else x) = z ∧ (z = x ∨ z = y) ∧ fle x z ∧ fle y z := by
      by_cases q : fless x y = true
      · refine ⟨y, if_pos q, .inr rfl, ?_, fle_refl y⟩
        unfold fless at q
        have q := of_decide_eq_true q
        unfold fle
        omega
      · refine ⟨x, if_neg q, .inl rfl, fle_refl x, ?_⟩
        exact fless_iff.mp (by cases e : fless x y with | false => rfl | true => exact absurd e q)
    obtain ⟨z, e, ez, l1, l2⟩ := c
    rw [e]
    have hz : 0 < z.2 := by rcases ez with rfl | rfl <;> assumption
    obtain ⟨m1, m2⟩ := fold_max ys z fun g hg => by
      rcases List.mem_cons.mp hg with q | q
      · rw [q]; exact hz
      · exact h g (List.mem_cons_of_mem _ (List.mem_cons_of_mem _ q))
    have mem : ∀ r, r ∈ z :: ys → r ∈ x :: y :: ys := fun r hr => by
      rcases List.mem_cons.mp hr with q | q
      · rw [q]
        rcases ez with e | e <;> rw [e] <;> simp
      · exact List.mem_cons_of_mem _ (List.mem_cons_of_mem _ q)
    have hr := h _ (mem _ m1)
    refine ⟨mem _ m1, fun g hg => ?_⟩
    have mz := m2 z List.mem_cons_self
    rcases List.mem_cons.mp hg with q | q
    · rw [q]; exact fle_trans hx hz hr l1 mz
    · rcases List.mem_cons.mp q with q | q
      · rw [q]; exact fle_trans hy hz hr l2 mz
      · exact m2 g (List.mem_cons_of_mem _ q)
theorem lleast_min {x : Fr} {xs : List Fr} (h : ∀ g ∈ x :: xs, 0 < g.2) : IsMin (x :: xs) (lleast x (x :: xs)) := by
  unfold lleast
  rw [List.foldl_cons]
  have e : (if fless x x = true then x else x) = x := by split <;> rfl
  rw [e]
  exact fold_min xs x h
theorem fle_neg {a b : Fr} : fle (fneg a) (fneg b) ↔ fle b a := by
  unfold fle fneg
  dsimp only
  have e1 : (0 - a.1) * b.2 = -(a.1 * b.2) := by grind
  have e2 : (0 - b.1) * a.2 = -(b.1 * a.2) := by grind
  omega
theorem fneg_fneg (a : Fr) : fneg (fneg a) = a := by
  unfold fneg
  refine Prod.ext ?_ rfl
  dsimp only
  omega
theorem IsMax.neg {S : List Fr} {f : Fr} (h : IsMax S f) : IsMin (S.map fneg) (fneg f) := ⟨List.mem_map_of_mem h.1, fun g hg => by
  obtain ⟨g', h1, rfl⟩ := List.mem_map.mp hg
  exact fle_neg.mpr (h.2 g' h1)⟩
/-! ### the law's corners and the least worth -/
theorem dotL_lst3 {k : Nat} (hk : k = 2 ∨ k = 3) {pay : List Int} (hl : pay.length = k) (x : LP.V3) : dotL pay (lst3 k x) = LP.dot (pv k pay) x := by
  unfold dotL lst3 LP.dot pv p3
  rcases hk with rfl | rfl
  · match pay, hl with
    | [a, b], _ => simp
  · match pay, hl with
    | [a, b, c], _ => simp; omega
theorem canon_worth {k : Nat} (hk : k = 2 ∨ k = 3) {pay : List Int} (hl : pay.length = k) {x : LP.V3} (p : 0 < LP.tot x) : worth pay (canon k x) = low (LP.dot (pv k pay) x) (LP.tot x) := by
  unfold canon
  rw [worth_low p, dotL_lst3 hk hl]
theorem low_can {t b : Int} (h : 0 < b) : Can (low t b) := ⟨low_pos h, low_coprime h⟩
section
variable {k : Nat} {qs : List Qt} {pay : List Int}
theorem K3.q (h : K3 (k, qs)) : ∀ q ∈ qs, QtOk k q := h.1.qs
theorem K3.two (h : K3 (k, qs)) : k = 2 ∨ k = 3 := h.2
theorem key_at (h : K3 (k, qs)) (hp : PayOk k pay) (hk : kept (k, qs) = true) : ∃ c ∈ lawCor k qs, worth pay c = leastF (k, qs) pay := by
  obtain ⟨I, _⟩ := leastF_ok h hp hk
  obtain ⟨x, F, C, e⟩ := I.at_
  refine ⟨canon k x, (cor_iff h.two h.q).mpr ⟨x, F, C, rfl⟩, ?_⟩
  have e : LP.dot (pv k pay) x * (leastF (k, qs) pay).2 = (leastF (k, qs) pay).1 * LP.tot x := e
  rw [canon_worth h.two hp.1 F.pos]
  have a1 := low_can (t := LP.dot (pv k pay) x) F.pos
  have a2 := low_eq (t := LP.dot (pv k pay) x) F.pos
  refine frac_ext a1.pos I.pos a1.cop I.cop ?_
  generalize leastF (k, qs) pay = f at *
  generalize low (LP.dot (pv k pay) x) (LP.tot x) = g at *
  have t := F.pos
  have : (g.1 * f.2) * LP.tot x = (f.1 * g.2) * LP.tot x := by
    have b1 : (g.1 * f.2) * LP.tot x = (g.1 * LP.tot x) * f.2 := by grind
    have b2 : (f.1 * g.2) * LP.tot x = (f.1 * LP.tot x) * g.2 := by grind
    rw [b1, b2, a2, ← e]
    grind
  exact Int.eq_of_mul_eq_mul_right (by omega) this
theorem key_le (h : K3 (k, qs)) (hp : PayOk k pay) (hk : kept (k, qs) = true) : ∀ c ∈ lawCor k qs, fle (leastF (k, qs) pay) (worth pay c) := by
  intro c hc
  obtain ⟨I, _⟩ := leastF_ok h hp hk
  obtain ⟨x, F, C, rfl⟩ := (cor_iff h.two h.q).mp hc
  have e : (leastF (k, qs) pay).1 * LP.tot x ≤ LP.dot (pv k pay) x * (leastF (k, qs) pay).2 := I.le x F
  rw [canon_worth h.two hp.1 F.pos]
  have a1 := low_can (t := LP.dot (pv k pay) x) F.pos
  have a2 := low_eq (t := LP.dot (pv k pay) x) F.pos
  have fp := I.pos
  generalize leastF (k, qs) pay = f at *
  generalize low (LP.dot (pv k pay) x) (LP.tot x) = g at *
  have t := F.pos
  unfold fle
  have gp := a1.pos
  have b0 : (f.1 * LP.tot x) * g.2 ≤ (LP.dot (pv k pay) x * f.2) * g.2 := Int.mul_le_mul_of_nonneg_right e (Int.le_of_lt gp)
  have : (f.1 * g.2) * LP.tot x ≤ (g.1 * f.2) * LP.tot x := by
    have b1 : (g.1 * f.2) * LP.tot x = (g.1 * LP.tot x) * f.2 := by grind
    have b2 : (f.1 * g.2) * LP.tot x = (f.1 * LP.tot x) * g.2 := by grind
    rw [b1, b2, a2]
    have b3 : LP.dot (pv k pay) x * g.2 * f.2 = (LP.dot (pv k pay) x * f.2) * g.2 := by grind
    rw [b3]
    exact b0
  exact Int.le_of_mul_le_mul_right this t
theorem pay0 : PayOk k (List.replicate k 0) := ⟨by simp, fun n hn => by rw [(List.mem_replicate.mp hn).2]; decide⟩
theorem key_ne (h : K3 (k, qs)) : lawCor k qs ≠ [] ↔ kept (k, qs) = true := by
  constructor
  · intro hne
    obtain ⟨c, hc⟩ := List.exists_mem_of_ne_nil _ hne
    obtain ⟨x, F, _, _⟩ := (cor_iff h.two h.q).mp hc
    exact kept_iff.mpr ⟨x, F⟩
  · intro hk
    obtain ⟨c, hc, _⟩ := key_at h pay0 hk
    exact List.ne_nil_of_mem hc
theorem cor_can (h : K3 (k, qs)) (hp : PayOk k pay) : ∀ c ∈ lawCor k qs, Can (worth pay c) := fun c hc => by
  obtain ⟨x, F, _, rfl⟩ := (cor_iff h.two h.q).mp hc
  rw [canon_worth h.two hp.1 F.pos]
  exact low_can F.pos
/-- shares of a sum -/
structure Parts (k : Nat) (c : List Fr) (ps : List Int) : Prop where
  len : ps.length = k
  nn : ∀ p ∈ ps, 0 ≤ p
  pos : 0 < ps.sum
  eq : c = ps.map fun p => low p ps.sum
theorem cor_parts (h : K3 (k, qs)) : ∀ c ∈ lawCor k qs, ∃ ps, Parts k c ps := fun c hc => by
  obtain ⟨x, F, _, rfl⟩ := (cor_iff h.two h.q).mp hc
  have s := sum_lst3 h.two F.z
  obtain ⟨n1, n2, n3⟩ := F.nn
  have hk := h.two
  refine ⟨lst3 k x, ?_, fun p hp => ?_, ?_, ?_⟩
  · unfold lst3
    rcases hk with rfl | rfl <;> rfl
  · unfold lst3 at hp
    rcases hk with rfl | rfl <;> simp at hp <;> omega
  · rw [s]; exact F.pos
  · rw [s]; rfl
theorem Drawn.parts {ch : List Fr} {ps : List Int} (h : Drawn k ch ps) : Parts k ch ps := ⟨h.len, fun p hp => (h.pt p hp).1, h.pos, h.eq⟩
theorem cor_few (h : K3 (k, qs)) : (lawCor k qs).length ≤ 144 := by
  unfold lawCor
  rw [inOrd_len]
  have h8 : qs.length ≤ 8 := h.1.few
  have hk := h.two
  have hl := rows_len k qs
  have h1 := (addC_all (fun _ => True) (lawCand k (lawRows k qs)) (lotsN (lawRows k qs).length (k - 1)) [] (fun _ h => by cases h) (fun _ _ _ _ => trivial)).2
  have h2 := lots_few (size := (lawRows k qs).length) (by omega) (k - 1) (by omega)
  rw [List.length_nil] at h1
  omega
theorem cor_sz (h : K3 (k, qs)) : ∀ c ∈ lawCor k qs, c.length = k ∧ ∀ f ∈ c, Sz 90 f := fun c hc => by
  obtain ⟨lot, hlot, e⟩ := lawCor_mem.mp hc
  obtain ⟨l1, l2⟩ := lots_ok _ _ lot hlot
  exact cand_ok h.two h.q l1 l2 e
end
theorem part_le : ∀ {ps : List Int}, (∀ p ∈ ps, 0 ≤ p) → 0 ≤ ps.sum ∧ ∀ p ∈ ps, p ≤ ps.sum
  | [], _ => ⟨by simp, fun _ h => by cases h⟩
  | q :: ps, h => by
    obtain ⟨h1, h2⟩ := part_le (ps := ps) fun p hp => h p (List.mem_cons_of_mem _ hp)
    have h0 := h q List.mem_cons_self
    rw [List.sum_cons]
    refine ⟨by omega, fun p hp => ?_⟩
    rcases List.mem_cons.mp hp with e | e
    · omega
    · have := h2 p e; omega
theorem take_sum_le : ∀ {ps : List Int} (i : Nat), (∀ p ∈ ps, 0 ≤ p) → (ps.take i).sum ≤ ps.sum
  | [], i, _ => by simp
  | q :: ps, 0, h => by
    have := (part_le h).1
    simp only [List.take_zero, List.sum_nil]
    exact this
  | q :: ps, i + 1, h => by
    have := take_sum_le (ps := ps) i fun p hp => h p (List.mem_cons_of_mem _ hp)
    rw [List.take_succ_cons, List.sum_cons, List.sum_cons]
    omega
theorem fsum_low {W : Int} (hW : 0 < W) (ps : List Int) : fsum (ps.map fun p => low p W) = low ps.sum W := by
  have go : ∀ (l : List Int) (a : Int), (l.map fun p => low p W).foldl fplus (low a W) = low (a + l.sum) W := by
    intro l
    induction l with
    | nil => intro a; simp
    | cons q l ih =>
      intro a
      rw [List.map_cons, List.foldl_cons, fplus_same hW, ih, List.sum_cons, Int.add_assoc]
  have z := go ps 0
  rw [low_zero hW, Int.zero_add] at z
  exact z
theorem Parts.chOk {k : Nat} {c : List Fr} {ps : List Int} (h : Parts k c ps) (h6 : k ≤ 6) (hb : ∀ f ∈ c, f.2 ≤ 1000000) : ChOk k c := by
  have hW := h.pos
  have hpl := part_le h.nn
  have he := h.eq
  refine ⟨by rw [he, List.length_map]; exact h.len, fun f hf => ?_, fun i => ?_, ?_, h6⟩
  · have hb := hb f hf
    rw [he] at hf
    obtain ⟨p, hp, rfl⟩ := List.mem_map.mp hf
    have a0 := h.nn p hp
    have a1 := hpl.2 p hp
    have a2 := low_pos (t := p) hW
    have a3 := gcd_low (t := p) hW
    obtain ⟨m1, m2⟩ := low_mul (t := p) hW
    have g := gcd_pos (t := p) hW
    generalize low p ps.sum = f at *
    generalize gcdI p ps.sum = d at *
    have n0 : 0 ≤ f.1 := by
      refine Int.not_lt.mp fun z => ?_
      have : f.1 * d < 0 := Int.mul_neg_of_neg_of_pos z g
      omega
    have n1 : f.1 ≤ f.2 := by
      refine Int.le_of_mul_le_mul_right (a := d) ?_ g
      omega
    exact ⟨⟨by omega, by omega, by omega, hb, a3⟩, n0, n1⟩
  · rw [fless_iff, he, ← List.map_take, fsum_low hW]
    have t := take_sum_le i h.nn
    have e := low_eq (t := (ps.take i).sum) hW
    have p := low_pos (t := (ps.take i).sum) hW
    generalize low (ps.take i).sum ps.sum = f at *
    unfold fle
    show f.1 * 1 ≤ 1 * f.2
    rw [Int.mul_one, Int.one_mul]
    refine Int.le_of_mul_le_mul_right (a := ps.sum) ?_ hW
    rw [e, Int.mul_comm f.2]
    exact Int.mul_le_mul_of_nonneg_right t (Int.le_of_lt p)
  · rw [he, fsum_low hW]
    have : low ps.sum ps.sum = low 1 1 := low_ext hW (by decide) (by omega)
    rw [this]
    decide
/-! ### the free book -/
theorem free_kept {k : Nat} (hk : k = 2 ∨ k = 3) : kept (k, []) = true := by
  refine kept_iff.mpr ⟨LP.e3 0, ⟨by decide, fun _ => rfl, by decide, fun j hj => ?_⟩⟩
  exact absurd hj (Nat.not_lt_zero j)
theorem free_K3 {k : Nat} (hk : k = 2 ∨ k = 3) : K3 (k, []) := ⟨⟨by show 2 ≤ k; omega, by show k ≤ 6; omega, by show 0 ≤ 8; decide, fun _ h => by cases h⟩, hk⟩
theorem free_least {k : Nat} (hk : k = 2 ∨ k = 3) {pay : List Int} (hp : PayOk k pay) {m : Int} (hm : m ∈ pay) (hle : ∀ y ∈ pay, m ≤ y) : leastF (k, []) pay = (m, 1) := by
  refine leastF_eq (free_K3 hk) hp (free_kept hk) ⟨by show (0 : Int) < 1; decide, by show Int.gcd m 1 = 1; simp, ?_, fun x F => ?_⟩
  · have feas : ∀ j, j < k → FeasB (k, []) (LP.e3 j) := fun j hj => by
      have : j = 0 ∨ j = 1 ∨ j = 2 := by omega
      refine ⟨?_, fun h2 => ?_, ?_, fun i hi => absurd hi (Nat.not_lt_zero i)⟩
      · rcases this with rfl | rfl | rfl <;> decide
      · have h2 : k = 2 := h2
        have : j = 0 ∨ j = 1 := by omega
        rcases this with rfl | rfl <;> rfl
      · rcases this with rfl | rfl | rfl <;> decide
    rcases hk with rfl | rfl
    · obtain ⟨pl, _⟩ := hp
      match pay, pl with
      | [a, b], _ =>
        simp only [List.mem_cons, List.not_mem_nil, or_false] at hm
        rcases hm with rfl | rfl
        · exact ⟨LP.e3 0, feas 0 (by decide), ⟨LP.e3 1, LP.e3 2, .inl ⟨1, (by decide), rfl⟩, fun _ => rfl, (fun h => by cases h), .inl (by decide)⟩, by simp [LP.dot, pv, p3, LP.e3, LP.tot]⟩
        · exact ⟨LP.e3 1, feas 1 (by decide), ⟨LP.e3 0, LP.e3 2, .inl ⟨0, (by decide), rfl⟩, fun _ => rfl, (fun h => by cases h), .inr (by decide)⟩, by simp [LP.dot, pv, p3, LP.e3, LP.tot]⟩
    · obtain ⟨pl, _⟩ := hp
      match pay, pl with
      | [a, b, c], _ =>
        simp only [List.mem_cons, List.not_mem_nil, or_false] at hm
        rcases hm with rfl | rfl | rfl
        · exact ⟨LP.e3 0, feas 0 (by decide), ⟨LP.e3 1, LP.e3 2, .inl ⟨1, (by decide), rfl⟩, (fun h => by cases h), fun _ => .inl ⟨2, (by decide), rfl⟩, .inl (by decide)⟩, by simp [LP.dot, pv, p3, LP.e3, LP.tot]⟩
        · exact ⟨LP.e3 1, feas 1 (by decide), ⟨LP.e3 2, LP.e3 0, .inl ⟨2, (by decide), rfl⟩, (fun h => by cases h), fun _ => .inl ⟨0, (by decide), rfl⟩, .inl (by decide)⟩, by simp [LP.dot, pv, p3, LP.e3, LP.tot]⟩
        · exact ⟨LP.e3 2, feas 2 (by decide), ⟨LP.e3 0, LP.e3 1, .inl ⟨0, (by decide), rfl⟩, (fun h => by cases h), fun _ => .inl ⟨1, (by decide), rfl⟩, .inl (by decide)⟩, by simp [LP.dot, pv, p3, LP.e3, LP.tot]⟩
  · show m * LP.tot x ≤ LP.dot (pv k pay) x * 1
    obtain ⟨n1, n2, n3⟩ := F.nn
    have z := F.z
    have z : k = 2 → x.2.2 = 0 := z
    have mul : ∀ (a y : Int), m ≤ a → 0 ≤ y → m * y ≤ a * y := fun a y h1 h2 => Int.mul_le_mul_of_nonneg_right h1 h2
    rw [Int.mul_one]
    unfold LP.dot pv p3 LP.tot
    rw [Int.mul_add, Int.mul_add]
    rcases hk with rfl | rfl
    · obtain ⟨pl, _⟩ := hp
      match pay, pl with
      | [a, b], _ =>
        have h1 := mul a x.1 (hle a (by simp)) n1
        have h2 := mul b x.2.1 (hle b (by simp)) n2
        rw [z rfl]
        simp
        omega
    · obtain ⟨pl, _⟩ := hp
      match pay, pl with
      | [a, b, c], _ =>
        have h1 := mul a x.1 (hle a (by simp)) n1
        have h2 := mul b x.2.1 (hle b (by simp)) n2
        have h3 := mul c x.2.2 (hle c (by simp)) n3
        simp
        omega
end Z
end
section
set_option Elab.async false
set_option linter.all false
set_option maxRecDepth 100000
set_option maxHeartbeats 400000
namespace Z
open PySem PySem.Spec PyProof.Rows L2 RZ
/-! ### what is left: plain -/
def butB (b : Bk) : List Bk := if b.2.length = 0 then [b] else (List.range b.2.length).map (lessQ b)
noncomputable def butF (b : Bk) : List Bk := (butB b).filter kept
def minOf : List Fr → Fr
  | [] => (0, 1)
  | x :: xs => fmin x xs
def maxOf : List Fr → Fr
  | [] => (0, 1)
  | x :: xs => fmax x xs
noncomputable def lowB (b : Bk) (pay : List Int) : Fr := minOf ((butF b).map fun c => leastF c pay)
noncomputable def highB (b : Bk) (pay : List Int) : Fr := maxOf ((butF b).map fun c => greatF c pay)
noncomputable def endsD (b : Bk) (pay : List Int) : D := if (butF b).isEmpty = true then .str "none" else .lst [frD (lowB b pay), frD (highB b pay)]
def spots (k : Nat) (qs : List Qt) : List (List Fr) := ((List.range qs.length).map fun i => lawCor k (lessQ (k, qs) i).2).flatten
def lowOf (pay : List Int) : List (List Fr) → Fr
  | [] => (0, 1)
  | c :: cs => lleast (worth pay c) ((c :: cs).map (worth pay))
def highOf (pay : List Int) (cs : List (List Fr)) : Fr := fneg (lowOf (pay.map fun n => -n) cs)
def dueD (pay : List Int) (cs : List (List Fr)) : D := if cs.isEmpty = true then .str "none" else .lst [frD (lowOf pay cs), frD (highOf pay cs)]
theorem K3.less {b : Bk} (h : K3 b) (i : Nat) : K3 (lessQ b i) := ⟨h.1.less i, h.2⟩
theorem greatF_neg (b : Bk) (pay : List Int) : greatF b pay = fneg (leastF b (pay.map fun n => -n)) := by
  unfold greatF fneg
  refine Prod.ext ?_ rfl
  dsimp only
  omega
theorem spots_mem {k : Nat} {qs : List Qt} {c : List Fr} : c ∈ spots k qs ↔ ∃ i, i < qs.length ∧ c ∈ lawCor k (lessQ (k, qs) i).2 := by
  unfold spots
  rw [List.mem_flatten]
  constructor
  · rintro ⟨l, hl, hc⟩
    obtain ⟨i, hi, rfl⟩ := List.mem_map.mp hl
    exact ⟨i, List.mem_range.mp hi, hc⟩
  · rintro ⟨i, hi, hc⟩
    exact ⟨_, List.mem_map_of_mem (List.mem_range.mpr hi), hc⟩
theorem butF_mem {b : Bk} (h : 1 ≤ b.2.length) {c : Bk} : c ∈ butF b ↔ ∃ i, i < b.2.length ∧ c = lessQ b i ∧ kept c = true := by
  unfold butF butB
  rw [if_neg (by omega), List.mem_filter, List.mem_map]
  constructor
  · rintro ⟨⟨i, hi, rfl⟩, hk⟩
    exact ⟨i, List.mem_range.mp hi, rfl, hk⟩
  · rintro ⟨i, hi, rfl, hk⟩
    exact ⟨⟨i, List.mem_range.mpr hi, rfl⟩, hk⟩
theorem butB_K3 {b : Bk} (h : K3 b) : ∀ c ∈ butB b, K3 c ∧ c.1 = b.1 := fun c hc => by
  unfold butB at hc
  split at hc
  · rw [List.mem_singleton.mp hc]
    exact ⟨h, rfl⟩
  · obtain ⟨i, _, rfl⟩ := List.mem_map.mp hc
    exact ⟨h.less i, rfl⟩
theorem butF_ok {b : Bk} (h : K3 b) : ∀ c ∈ butF b, K3 c ∧ c.1 = b.1 ∧ kept c = true := fun c hc => by
  unfold butF at hc
  obtain ⟨h1, h2⟩ := List.mem_filter.mp hc
  obtain ⟨h3, h4⟩ := butB_K3 h c h1
  exact ⟨h3, h4, h2⟩
theorem butB_few {b : Bk} (h : K3 b) : (butB b).length ≤ 8 := by
  have := h.1.few
  unfold butB
  split
  · show 1 ≤ 8
    decide
  · rw [List.length_map, List.length_range]
    exact this
theorem least_can {b : Bk} {pay : List Int} (h : K3 b) (hp : PayOk b.1 pay) (hk : kept b = true) : Can (leastF b pay) := ⟨(leastF_ok h hp hk).1.pos, (leastF_ok h hp hk).1.cop⟩
section
variable {k : Nat} {qs : List Qt} {pay : List Int}
theorem min_spots (h : K3 (k, qs)) (h1 : 1 ≤ qs.length) (hp : PayOk k pay) {f : Fr} (m : IsMin ((butF (k, qs)).map fun c => leastF c pay) f) : IsMin ((spots k qs).map (worth pay)) f := by
  obtain ⟨m1, m2⟩ := m
  constructor
  · obtain ⟨c, hc, rfl⟩ := List.mem_map.mp m1
    obtain ⟨i, hi, rfl, hk⟩ := (butF_mem (b := (k, qs)) h1).mp hc
    obtain ⟨x, hx, e⟩ := key_at (k := k) (qs := (lessQ (k, qs) i).2) (h.less i) hp hk
    exact List.mem_map.mpr ⟨x, spots_mem.mpr ⟨i, hi, hx⟩, e⟩
  · intro g hg
    obtain ⟨x, hx, rfl⟩ := List.mem_map.mp hg
    obtain ⟨i, hi, hx⟩ := spots_mem.mp hx
    have hk : kept (lessQ (k, qs) i) = true := (key_ne (k := k) (qs := (lessQ (k, qs) i).2) (h.less i)).mp (List.ne_nil_of_mem hx)
    have l1 := key_le (k := k) (qs := (lessQ (k, qs) i).2) (h.less i) hp hk x hx
    have l2 := m2 (leastF (lessQ (k, qs) i) pay) (List.mem_map.mpr ⟨_, (butF_mem (b := (k, qs)) h1).mpr ⟨i, hi, rfl, hk⟩, rfl⟩)
    have c1 := least_can (b := lessQ (k, qs) i) (h.less i) hp hk
    have c2 := cor_can (k := k) (qs := (lessQ (k, qs) i).2) (h.less i) hp x hx
    obtain ⟨c, hc, rfl⟩ := List.mem_map.mp m1
    obtain ⟨hc1, hc2, hc3⟩ := butF_ok h c hc
    exact fle_trans (least_can hc1 (by rw [hc2]; exact hp) hc3).pos c1.pos c2.pos l2 l1
theorem spots_can (h : K3 (k, qs)) (hp : PayOk k pay) : ∀ g ∈ (spots k qs).map (worth pay), Can g := fun g hg => by
  obtain ⟨x, hx, rfl⟩ := List.mem_map.mp hg
  obtain ⟨i, hi, hx⟩ := spots_mem.mp hx
  exact cor_can (k := k) (qs := (lessQ (k, qs) i).2) (h.less i) hp x hx
theorem but_spots (h : K3 (k, qs)) (h1 : 1 ≤ qs.length) : butF (k, qs) = [] ↔ spots k qs = [] := by
  constructor
  · intro e
    refine List.eq_nil_iff_forall_not_mem.mpr fun x hx => ?_
    obtain ⟨i, hi, hx⟩ := spots_mem.mp hx
    have hk : kept (lessQ (k, qs) i) = true := (key_ne (k := k) (qs := (lessQ (k, qs) i).2) (h.less i)).mp (List.ne_nil_of_mem hx)
    have := (butF_mem (b := (k, qs)) h1).mpr ⟨i, hi, rfl, hk⟩
    rw [e] at this
    cases this
  · intro e
    refine List.eq_nil_iff_forall_not_mem.mpr fun c hc => ?_
    obtain ⟨i, hi, rfl, hk⟩ := (butF_mem (b := (k, qs)) h1).mp hc
    have hne := (key_ne (k := k) (qs := (lessQ (k, qs) i).2) (h.less i)).mpr hk
    obtain ⟨x, hx⟩ := List.exists_mem_of_ne_nil _ hne
    have := spots_mem.mpr ⟨i, hi, hx⟩
    rw [e] at this
    cases this
theorem minOf_min : ∀ {xs : List Fr}, xs ≠ [] → (∀ g ∈ xs, 0 < g.2) → IsMin xs (minOf xs)
  | [], h, _ => absurd rfl h
  | x :: xs, _, h => fold_min xs x h
theorem maxOf_max : ∀ {xs : List Fr}, xs ≠ [] → (∀ g ∈ xs, 0 < g.2) → IsMax xs (maxOf xs)
  | [], h, _ => absurd rfl h
  | x :: xs, _, h => fold_max xs x h
theorem lowOf_min : ∀ {cs : List (List Fr)}, cs ≠ [] → (∀ g ∈ cs.map (worth pay), 0 < g.2) → IsMin (cs.map (worth pay)) (lowOf pay cs)
  | [], h, _ => absurd rfl h
  | c :: cs, _, h => lleast_min (x := worth pay c) (xs := cs.map (worth pay)) h
theorem but_pos {b : Bk} (h : K3 b) (hp : PayOk b.1 pay) : ∀ g ∈ (butF b).map fun c => leastF c pay, 0 < g.2 := fun g hg => by
  obtain ⟨c, hc, rfl⟩ := List.mem_map.mp hg
  obtain ⟨c1, c2, c3⟩ := butF_ok h c hc
  exact (least_can c1 (by rw [c2]; exact hp) c3).pos
theorem lowB_eq (h : K3 (k, qs)) (h1 : 1 ≤ qs.length) (hp : PayOk k pay) (hne : butF (k, qs) ≠ []) : minOf ((butF (k, qs)).map fun c => leastF c pay) = lowOf pay (spots k qs) := by
  have m := minOf_min (xs := (butF (k, qs)).map fun c => leastF c pay) (by simpa using hne) (but_pos (b := (k, qs)) h hp)
  have sn : spots k qs ≠ [] := fun e => hne ((but_spots h h1).mpr e)
  exact (min_spots h h1 hp m).uniq (spots_can h hp) (lowOf_min sn fun g hg => (spots_can h hp g hg).pos)
theorem ends_due (h : K3 (k, qs)) (h1 : 1 ≤ qs.length) (hp : PayOk k pay) : endsD (k, qs) pay = dueD pay (spots k qs) := by
  unfold endsD dueD
  by_cases e : butF (k, qs) = []
  · have e2 := (but_spots h h1).mp e
    rw [e, e2]
    rfl
  · have e2 : spots k qs ≠ [] := fun z => e ((but_spots h h1).mpr z)
    have f1 : ¬ ((butF (k, qs)).isEmpty = true) := fun z => e (List.isEmpty_iff.mp z)
    have f2 : ¬ ((spots k qs).isEmpty = true) := fun z => e2 (List.isEmpty_iff.mp z)
    rw [if_neg f1, if_neg f2]
    have g1 : lowB (k, qs) pay = lowOf pay (spots k qs) := lowB_eq h h1 hp e
    have g2 : highB (k, qs) pay = highOf pay (spots k qs) := by
      have hn : PayOk k (pay.map fun n => -n) := hp.neg
      have m := lowB_eq h h1 hn e
      unfold highB highOf
      rw [← m]
      have eL : (butF (k, qs)).map (fun c => greatF c pay) = ((butF (k, qs)).map fun c => leastF c (pay.map fun n => -n)).map fneg := by
        rw [List.map_map]
        exact List.map_congr_left fun c _ => greatF_neg c pay
      rw [eL]
      have bp := but_pos (pay := pay.map fun n => -n) (b := (k, qs)) h hn
      have hneL : (butF (k, qs)).map (fun c => leastF c (pay.map fun n => -n)) ≠ [] := by simpa using e
      have hcan : ∀ g ∈ (butF (k, qs)).map fun c => leastF c (pay.map fun n => -n), Can g := fun g hg => by
        obtain ⟨c, hc, rfl⟩ := List.mem_map.mp hg
        obtain ⟨c1, c2, c3⟩ := butF_ok h c hc
        exact least_can c1 (by rw [c2]; exact hn) c3
      generalize (butF (k, qs)).map (fun c => leastF c (pay.map fun n => -n)) = L at *
      have mx := maxOf_max (xs := L.map fneg) (by simpa using hneL) fun g hg => by
        obtain ⟨g', h1, rfl⟩ := List.mem_map.mp hg
        exact bp g' h1
      have mn := mx.neg
      have eLL : (L.map fneg).map fneg = L := by
        rw [List.map_map]
        have : (fneg ∘ fneg) = id := funext fneg_fneg
        rw [this, List.map_id]
      rw [eLL] at mn
      have q := mn.uniq hcan (minOf_min hneL bp)
      rw [← q, fneg_fneg]
    rw [g1, g2]
theorem less_feas {b : Bk} {x : LP.V3} (i : Nat) (F : FeasB b x) : FeasB (lessQ b i) x := by
  refine ⟨F.nn, F.z, F.pos, fun j hj => ?_⟩
  have hj : j < (lessQ b i).2.length := hj
  have e : (lessQ b i).2[j]? = some (lessQ b i).2[j] := List.getElem?_eq_getElem hj
  have hm : (lessQ b i).2[j] ∈ b.2 := by
    have h0 : (lessQ b i).2[j] ∈ (lessQ b i).2 := List.getElem_mem hj
    generalize (lessQ b i).2[j] = q at *
    have h0 : q ∈ b.2.take i ++ b.2.drop (i + 1) := h0
    rcases List.mem_append.mp h0 with z | z
    · exact List.mem_of_mem_take z
    · exact List.mem_of_mem_drop z
  obtain ⟨j', hj', e'⟩ := List.getElem_of_mem hm
  have := F.keep j' hj'
  have eg : g3 b.1 b.2 j' = g3 b.1 (lessQ b i).2 j := by
    unfold g3
    rw [List.getElem?_eq_getElem hj', e, e']
  rw [eg] at this
  exact this
theorem told_ok (h : K3 (k, qs)) (h1 : 1 ≤ qs.length) (hp : PayOk k pay) (hk : kept (k, qs) = true) : butF (k, qs) ≠ [] ∧ fless (leastF (k, qs) pay) (lowB (k, qs) pay) = false := by
  obtain ⟨x, F⟩ := kept_iff.mp hk
  have k0 : kept (lessQ (k, qs) 0) = true := kept_iff.mpr ⟨x, less_feas 0 F⟩
  have hm : lessQ (k, qs) 0 ∈ butF (k, qs) := (butF_mem (b := (k, qs)) h1).mpr ⟨0, h1, rfl, k0⟩
  have hne : butF (k, qs) ≠ [] := List.ne_nil_of_mem hm
  refine ⟨hne, ?_⟩
  have m := minOf_min (xs := (butF (k, qs)).map fun c => leastF c pay) (by simpa using hne) (but_pos (b := (k, qs)) h hp)
  have l1 := m.2 (leastF (lessQ (k, qs) 0) pay) (List.mem_map.mpr ⟨_, hm, rfl⟩)
  rw [fless_iff]
  have I := (leastF_ok (pay := pay) h hp hk).1
  have I0 := (leastF_ok (pay := pay) (h.less 0) hp k0).1
  refine fle_trans (but_pos (b := (k, qs)) h hp _ m.1) I0.pos I.pos l1 ?_
  obtain ⟨y, Fy, _, ey⟩ := I.at_
  have l := I0.le y (less_feas 0 Fy)
  have l : (leastF (lessQ (k, qs) 0) pay).1 * LP.tot y ≤ LP.dot (pv k pay) y * (leastF (lessQ (k, qs) 0) pay).2 := l
  have ey : LP.dot (pv k pay) y * (leastF (k, qs) pay).2 = (leastF (k, qs) pay).1 * LP.tot y := ey
  have p1 := I.pos
  have p0 := I0.pos
  generalize leastF (lessQ (k, qs) 0) pay = f at *
  generalize leastF (k, qs) pay = g at *
  have t := Fy.pos
  unfold fle
  have b0 : (f.1 * LP.tot y) * g.2 ≤ (LP.dot (pv k pay) y * f.2) * g.2 := Int.mul_le_mul_of_nonneg_right l (Int.le_of_lt p1)
  have b1 : (LP.dot (pv k pay) y * f.2) * g.2 = (g.1 * LP.tot y) * f.2 := by rw [← ey]; grind
  refine Int.le_of_mul_le_mul_right (a := LP.tot y) ?_ t
  have b2 : f.1 * g.2 * LP.tot y = (f.1 * LP.tot y) * g.2 := by grind
  have b3 : g.1 * f.2 * LP.tot y = (g.1 * LP.tot y) * f.2 := by grind
  omega
theorem free_butF (hk : k = 2 ∨ k = 3) : butF (k, []) = [(k, [])] := by
  show [((k, []) : Bk)].filter kept = _
  rw [List.filter_cons, if_pos (free_kept hk)]
  rfl
theorem one_butF {q : Qt} (hk : k = 2 ∨ k = 3) : butF (k, [q]) = [(k, [])] := by
  unfold butF butB
  rw [if_neg (by show ¬ (1 = 0); decide)]
  show [((k, []) : Bk)].filter kept = _
  rw [List.filter_cons, if_pos (free_kept hk)]
  rfl
theorem free_ends {b : Bk} (hb : butF b = [(k, [])]) (hk : k = 2 ∨ k = 3) (hp : PayOk k pay) {m n : Int} (hm : m ∈ pay) (hle : ∀ y ∈ pay, m ≤ y) (hn : n ∈ pay) (hge : ∀ y ∈ pay, y ≤ n) : endsD b pay = .lst [frD (m, 1), frD (n, 1)] := by
  unfold endsD lowB highB
  rw [hb]
  show D.lst [frD (leastF (k, []) pay), frD (greatF (k, []) pay)] = _
  rw [free_least hk hp hm hle, greatF_neg, free_least hk hp.neg (m := -n) (List.mem_map.mpr ⟨n, hn, rfl⟩) (fun y hy => by
    obtain ⟨z, hz, rfl⟩ := List.mem_map.mp hy
    have := hge z hz
    omega)]
  unfold fneg
  dsimp only
  rw [show 0 - -n = n by omega]
end
end Z
end
section
set_option Elab.async false
set_option linter.all false
set_option maxRecDepth 100000
set_option maxHeartbeats 400000
namespace Z
open PySem PySem.Spec PyProof.Rows L2 RZ
/-! ### what raises -/
section
variable {X : Cx} {C : Addr} {bmB : List Value} {Bn newId initId : String} {x : Str} {p pos : Pos}
/-- X() of an own exception class -/
theorem pmk_own0 (F : ExcBaseFacts Bn newId initId bmB) (q : PySem.W.excIn X.K C bmB newId = true) (gC : X.mg x = some (.ref C)) (kC : PySem.W.keepIn X.K (.ref C) = true) (r : Raises X (.ref C)) (hg : Gl X x)
    (hdb : (x == ("__debug__" : Str)) = false := by decide) : PMk X (.Call (.Name x p) [] [] pos) (fun _ H Q => Q (.ref C) none H) := by
  intro pins s σ H Q I h
  refine wpAny_Call_Name_kw (ld_glob I hg gC ?_ hdb)
  refine PySem.W.callWith_K0 I.kIn kC ?_
  show wpAny _ _ (call (.ref C) []) _ _ _
  obtain ⟨bm, N, nm, qn, bs, hdct, sn, sub, ab, col, dd, k0, k1, k2, k3, k5, mN, hC, hN, hni, T⟩ := exc_obj I.kIn q
  refine wpAny_call_exc_subT F T hC hN hni (fun h' e hm => ?_) (Nat.zero_le _)
  exact mk_of I hm r h (I.hok.gone hm.new)
end
section
variable {X : Cx} {J : Jx} {B0 H0 : Hp} {Γ : Gam} {O : Own} {N : Sp3} {R : Rp} {rest : List Stmt} {e a b : Expr} {es : List Expr} {pos pos' p : Pos} {Wt : WX}
theorem hb_raise {x : Str} (T : Fac X.K X.mg) (tk : Takes X Wt) (hW : ∀ σ B' H', Stp J B0 H0 B' H' → Wt (.ref (He.ga X.K "NotSound")) none σ H') (hc : X.calm = true := by rfl) (hx : x = "NotSound" := by rfl) (hg : Gl X x := by rfl) :
    HB X (.Raise (some (.Call (.Name x p) [] [] pos)) none pos' :: rest) (SX X J B0 H0 Γ O) N R := fun σ B H s E n r => by
  subst hx
  have ek := ex_NotSound T
  exact ofSs (pss_cons (ps_raise hc tk (pmk_own0 PySem.F.excBase_ArithmeticError ek.ex (g_NotSound T) ek.kp (raises_own ek.sub ek.ty) hg)) pss_never) (hW σ B H s.st)
/-- it always raises -/
def EvR (X : Cx) (J : Jx) (B0 H0 : Hp) (Γ : Gam) (e : Expr) : Prop := ∀ (σ : L2.St) (B H : Hp), Stp J B0 H0 B H → Fit X.K J Γ σ B → ∀ Q : VK, wpE X e σ H Q
theorem r_ret (h : EvR X J B0 H0 Γ e) : HB X (.Return (some e) pos :: rest) (SX X J B0 H0 Γ O) N R := fun σ B H s E n r =>
  ofSs (pss_cons (ps_ret wpE.pe) pss_never) (h σ B H s.st s.fit _)
theorem r_args (h : EvR X J B0 H0 Γ a) {σ : L2.St} {B H : Hp} (s : Stp J B0 H0 B H) (f : Fit X.K J Γ σ B) (Q : List V → Hp → Prop) (hs : starEach (a :: es) X.env = (false, eval a X.env) :: starEach es X.env := by rfl) : wpA X (a :: es) σ H Q :=
  ofA (pa_cons wpE.pe wpA.pa hs) (h σ B H s f _)
theorem r_lst (h : EvR X J B0 H0 Γ a) (hs : starEach (a :: es) X.env = (false, eval a X.env) :: starEach es X.env := by rfl) : EvR X J B0 H0 Γ (.List (a :: es) pos) := fun σ B H s f Q =>
  ofE (pe_lst wpA.pa) (r_args h s f _ hs)
theorem r_lc {tg iter elt : Expr} {ifs : List Expr} {scope : Scope} {own : List (Str × Nat)} (h : EvR X J B0 H0 Γ iter) (hN : X.N.Nodup) (ok : BlkOk X.N X.env.scope scope own) (hc : X.calm = true := by rfl) (hs : ∀ x, foldedSetIterable iter X.env x = pure x := by intro _; rfl) :
    EvR X J B0 H0 Γ (.ListComp elt [⟨tg, iter, ifs, 0⟩] scope pos) := fun σ B H s fi Q =>
  ofE (pe_lc (g := famG X scope tg) (tt := famT X scope ifs) (te := famE X scope elt) hc hN (pi_list wpE.pe) ok
    (fun s H C cl fp => ⟨fun pins s' σ' H' v u Q' I r h => h _ ⟨s, H, C, cl, fp, rfl⟩ pins s' u I r⟩) (fun s H C cl fp => ⟨fun pins s' σ' H' Q' I h => h _ ⟨s, H, C, cl, fp, rfl⟩ pins s' I⟩)
    (fun s H C cl fp => ⟨fun pins s' σ' H' Q' I h => h _ ⟨s, H, C, cl, fp, rfl⟩ pins s' I⟩) hs) (h σ B H s fi _)
/-- a call of a def, an argument raises -/
theorem r_arg {k k' : Nat} {ps : List Str} {x : Str} {sp : Sp} (F : Ok X.prog X.w X.K X.mg X.base x k ps sp) (hr : Room k' X.A) (h : EvR X J B0 H0 Γ a) (hk : k ≤ k' := by decide) (hg : Gl X x := by rfl) (hdb : (x == ("__debug__" : Str)) = false := by decide) (he : starEach (a :: es) X.env = (false, eval a X.env) :: starEach es X.env := by rfl)
    (hpl : (backTo pos (starEach es X.env)).any (·.1) = false := by rfl) : EvR X J B0 H0 Γ (.Call (.Name x p) (a :: es) [] pos) := fun σ B H s f Q => by
  obtain ⟨fd, F1, b⟩ := F.f
  exact ofE (pe_call (E := fun _ _ _ => False) F1 (hr.mono hk) hg F.mg F.kp b .nil pass0 wpA.pa hdb he hpl) (r_args h s f _ he)
end
/-- a promise that may raise: bad tells when -/
def PmB (K : PySem.W.Frag) (C : Addr) {A : Type} (args : A → List D) (pre bad : A → Prop) (post : A → D → Prop) : Sp := fun vs H Q E => ∃ (J : Jx) (B : Hp) (a : A), W J B H ∧ Dens K J (args a) B vs ∧ pre a ∧
  (¬ bad a → ∀ d v B' H', post a d → Stp J B H B' H' → Den K J d B' v → Q v H') ∧ (bad a → ∀ B' H', Stp J B H B' H' → E (.ref C) none H')
structure OkX (P : Program) (w : World) (K : PySem.W.Frag) (mg : Str → Option Value) (base : Heap) (x : Str) (k : Nat) (ps : List Str) (sp : Sp) : Prop where
  f : ∃ fd, FnOk P w K mg base (L2.CX P w) k (He.ga K x) fd ps sp ∧ Binds K fd ps []
  kp : PySem.W.keepIn K (.ref (He.ga K x)) = true
  mg : mg x = some (.ref (He.ga K x))
section
variable {P : Program} {w : World} {K : PySem.W.Frag} {mg : Str → Option Value} {base : Heap}
abbrev bxX (P : Program) (w : World) (K : PySem.W.Frag) (mg : Str → Option Value) (base : Heap) (N : List Str) (qual : Str) (st : Stmt) (f : Addr) (cdv : Value) (A : Around) (outer : List Env) (s : Shared) (H : Hp) (E : XK) : Cx := cxOf (L2.CX P w) P w K mg base N qual (defScope st) f cdv A outer s H E
theorem bxX_takes {N : List Str} {qual : Str} {st : Stmt} {f : Addr} {cdv : Value} {A : Around} {outer : List Env} {s : Shared} {H : Hp} {E : XK} : Takes (bxX P w K mg base N qual st f cdv A outer s H E) (fun cls d _ H' => E cls d H') :=
  takes_of (X := bxX P w K mg base N qual st f cdv A outer s H E) rfl rfl rfl rfl
theorem okX {A : Type} {C : Addr} {args : A → List D} {pre bad : A → Prop} {post : A → D → Prop} {x : Str} {st : Stmt} {N ps : List Str} {k : Nat} (F : ∃ fd, Fun K x x st (He.ga K x) fd ∧ Binds K fd ps []) (g : mg x = some (.ref (He.ga K x))) (Sc : FnScope N ps (defScope st)) (hl : ∀ a, (args a).length = ps.length)
    (hb : ∀ (cdv : Value) (Ar : Around) (outer : List Env) (s : Shared) (E : XK) (J : Jx) (B H : Hp) (a : A), Room k (bxX P w K mg base N x st (He.ga K x) cdv Ar outer s H E).A → pre a → (bad a → ∀ B' H', Stp J B H B' H' → E (.ref C) none H') →
      HB (bxX P w K mg base N x st (He.ga K x) cdv Ar outer s H E) (defBody st) (S K J B H ((args a).map some ++ List.replicate (N.length - (args a).length) none) []) (fun _ _ _ => False) (Ret K J B H (fun d => ¬ bad a ∧ post a d))) : OkX P w K mg base x (k + 1) ps (PmB K C args pre bad post) := by
  obtain ⟨fd, F, b⟩ := F
  refine ⟨⟨fd, ?_, b⟩, F.kp, g⟩
  refine F.okX Sc (fun vs H Q E h => ?_) (fun cdv A outer s H vs Q E hr h => ?_)
  · obtain ⟨J, B, a, _, hd, _⟩ := h
    rw [hd.length, hl]
  · obtain ⟨J, B, a, hw, hd, hp, q1, q2⟩ := h
    refine ⟨_, wpSs.pss, ?_⟩
    refine hb cdv A outer s E J B H a hr hp q2 _ B H (S.start hw hd) _ (fun σ' B' H' _ hn => hn.elim) fun v B' H' _ hr => ?_
    obtain ⟨t, d, ⟨nb, pd⟩, hd⟩ := hr
    exact q1 nb d v B' H' pd t hd
end
section
variable {X : Cx} {J : Jx} {B0 H0 : Hp} {Γ : Gam} {e : Expr} {es : List Expr} {pos p : Pos}
/-- called where it does not raise -/
theorem x_fnX {A : Type} {C : Addr} {args : A → List D} {pre bad : A → Prop} {post : A → D → Prop} {P : D → Prop} {PS : List D → Prop} {k k' : Nat} {ps : List Str} {x : Str} (F : OkX X.prog X.w X.K X.mg X.base x k ps (PmB X.K C args pre bad post)) (hr : Room k' X.A) (hk : k ≤ k') (ha : EvA X J Γ (e :: es) PS) (q : ∀ ds, PS ds → ∃ a, ds = args a ∧ (pre a ∧ ¬ bad a) ∧ ∀ d, post a d → P d)
    (hg : Gl X x := by rfl) (hdb : (x == ("__debug__" : Str)) = false := by decide) (he : starEach (e :: es) X.env = (false, eval e X.env) :: starEach es X.env := by rfl) (hpl : (backTo pos (starEach es X.env)).any (·.1) = false := by rfl) : Ev X J Γ (.Call (.Name x p) (e :: es) [] pos) P := by
  obtain ⟨fd, F1, b⟩ := F.f
  exact x_call (F1.imp (sp' := Pm X.K args (fun a => pre a ∧ ¬ bad a) post) (fun vs H Q E ⟨J, B, a, hw, hd, ⟨hp, nb⟩, q⟩ => ⟨J, B, a, hw, hd, hp, fun _ => q, fun h => absurd h nb⟩)) (hr.mono hk) F.mg F.kp b ha q passL hg hdb he hpl
theorem x_fnXD {A : Type} {C : Addr} {args : A → List D} {pre bad : A → Prop} {val : A → D} {k k' : Nat} {ps : List Str} {x : Str} (F : OkX X.prog X.w X.K X.mg X.base x k ps (PmB X.K C args pre bad (fun a d => d = val a))) (a : A) (hr : Room k' X.A) (ha : EvA X J Γ (e :: es) (· = args a)) (hp : pre a) (nb : ¬ bad a) (hk : k ≤ k' := by decide)
    (hg : Gl X x := by rfl) (hdb : (x == ("__debug__" : Str)) = false := by decide) (he : starEach (e :: es) X.env = (false, eval e X.env) :: starEach es X.env := by rfl) (hpl : (backTo pos (starEach es X.env)).any (·.1) = false := by rfl) : Ev X J Γ (.Call (.Name x p) (e :: es) [] pos) (· = val a) :=
  x_fnX F hr hk ha (fun _ p => ⟨a, p, ⟨hp, nb⟩, fun _ q => q⟩) hg hdb he hpl
/-- called where it raises -/
theorem r_fn {A : Type} {C : Addr} {args : A → List D} {pre bad : A → Prop} {post : A → D → Prop} {k k' : Nat} {ps : List Str} {x : Str} {Wt : WX} (F : OkX X.prog X.w X.K X.mg X.base x k ps (PmB X.K C args pre bad post)) (a : A) (hr : Room k' X.A) (ha : EvA X J Γ (e :: es) (· = args a)) (hp : pre a) (hb : bad a) (tk : Takes X Wt)
    (hW : ∀ σ B' H', Stp J B0 H0 B' H' → Wt (.ref C) none σ H') (hk : k ≤ k' := by decide) (hg : Gl X x := by rfl) (hdb : (x == ("__debug__" : Str)) = false := by decide) (he : starEach (e :: es) X.env = (false, eval e X.env) :: starEach es X.env := by rfl) (hpl : (backTo pos (starEach es X.env)).any (·.1) = false := by rfl) :
    EvR X J B0 H0 Γ (.Call (.Name x p) (e :: es) [] pos) := fun σ B H s f Q => by
  obtain ⟨fd, F1, b⟩ := F.f
  refine ofE (pe_callS F1 (hr.mono hk) hg F.mg F.kp b (fun σ => passAt tk σ) wpA.pa hdb he hpl) (ha σ B H s.w f _ fun ds vs B1 H1 ps s1 dd => ?_)
  subst ps
  exact ⟨J, B1, a, s1.w, dd, hp, fun nb => absurd hb nb, fun _ B' H' s2 => hW σ B' H' ((s.trans s1).trans s2)⟩
end
end Z
end
section
set_option Elab.async false
set_option linter.all false
set_option maxRecDepth 100000
set_option maxHeartbeats 400000
namespace Z
open PySem PySem.Spec PyProof.Rows L2 RZ
section
variable {X : Cx} {J : Jx} {B0 H0 : Hp} {Γ : Gam} {N : Sp3} {rest body : List Stmt} {pos pos' np p3 : Pos} {P : D → Prop}
/-- try: .. except NotSound: return a text -/
theorem hb_tryN {x str : Str} {j : Nat} {p2 : Pos} (T : Fac X.K X.mg)
    (h : ∀ (pn : List (Addr × Obj)) (xe : Value → Shared → Prop) (Wt : WX) (B1 H1 : Hp), Takes (X.tr pn xe) Wt → (P (.str str) → ∀ σ' B' H', Stp J B1 H1 B' H' → Wt (.ref (He.ga X.K "NotSound")) none σ' H') → HB (X.tr pn xe) body (SX X J B1 H1 Γ []) (fun _ _ _ => False) (Ret X.K J B1 H1 P))
    (hs : X.stack = X.env :: X.outer := by rfl) (hf : X.env.frame = some X.env.locals := by rfl) (hx : x = "NotSound" := by rfl) (hg : Gl X x := by rfl) :
    HB X (.Try body [.ExceptHandler (some (.Name x np)) none [.Return (some (.Constant (.str str) j p2)) p3] pos'] [] [] pos :: rest) (SX X J B0 H0 Γ []) N (Ret X.K J B0 H0 P) := fun σ B H s E n r => by
  subst hx
  have ek := ex_NotSound T
  refine ofSs (pss_cons (ps_try_only (c := .ref (He.ga X.K "NotSound")) (Wout := fun _ _ _ _ => False) (tb := fun W D σ H => ∀ pn xe, Takes (X.tr pn xe) W → wpSs (X.tr pn xe) body D σ H) hs hf ⟨hg, by decide, .inl (g_NotSound T)⟩ takes0 (fun W pn xe tk po => ⟨fun pins s σ H D I h => h pn xe tk pins s I⟩) (fun a oe cls d pn hz hd => pss_cons (ps_ret pe_str) pss_never)) wpSs.pss) ?_
  intro pn xe tk
  refine h pn xe _ B H tk (fun hP σ' B' H' t => ⟨true, ek.exm, fun _ a ha => r (.str str) B' H' t.b ⟨s.st.trans t, .str str, hP, den_str.mpr rfl⟩, fun z => by cases z⟩) σ B H ⟨.refl s.w, s.fit, fun q hq => (by cases hq), fun q hq => (by cases hq), s.len⟩ _ (fun _ _ _ _ z => z.elim) (fun v B' H' sb hr => ?_)
  obtain ⟨t, d, pd, hd⟩ := hr
  exact r v B' H' sb ⟨s.st.trans t, d, pd, hd⟩
end
theorem leastF_sz {b : Bk} {pay : List Int} (h : K3 b) (hp : PayOk b.1 pay) (hk : kept b = true) : Sz 100 (leastF b pay) := (leastF_ok h hp hk).2
theorem greatF_sz {b : Bk} {pay : List Int} (h : K3 b) (hp : PayOk b.1 pay) (hk : kept b = true) : Sz 100 (greatF b pay) := by
  obtain ⟨h1, h2, h3⟩ := leastF_sz h hp.neg hk
  refine ⟨?_, h2, h3⟩
  show (-(leastF b _).1).natAbs < _
  rw [Int.natAbs_neg]
  exact h1
theorem butF_few {b : Bk} (h : K3 b) : (butF b).length ≤ 8 := Nat.le_trans (List.length_filter_le _ _) (butB_few h)
section
variable {P : Program} {w : World} {K : PySem.W.Frag} {mg : Str → Option Value} {base : Heap}
theorem ok_but_one (T : Fac K mg) : OkX P w K mg base "but_one" 10 ["book"] (PmB K (He.ga K "NotSound") (fun b : Bk => [bD b]) K3 (fun b => butF b = []) (fun b d => d = .lst ((butF b).map bD))) := by
  refine okX (f_but_one T) (g_but_one T) c_but_one (fun _ => rfl) ?_
  intro cdv Ar outer s E J B H b hr h3 hE
  have h8 := h3.1.few
  refine hb_lcf 1 [("index", 3)] [3] (xs := List.range b.2.length) (fun (i : Nat) => D.int (i : Int)) (fun i Γ => Γ.set 3 (some (.int (i : Nat)))) (fun i => bD (lessQ b i)) (i_range1 (n := (b.2.length : Nat)) ((x_lenT (b_len T) (x_quo T hr (by decide) (x_var 0))).is (by rw [List.length_map])) (by omega) (b_range T)) c_but_one.nd (blk n_but_one (defScope s_but_one)) (by rw [List.length_range]; omega) ?_ (O' := []) ?_ (fun _ h => by cases h) (by show 1 < 5; decide)
  · rintro i hi Y ⟨_, _, _, _, _, rfl⟩
    have hi := List.mem_range.mp hi
    exact ⟨tg_name 3 c_but_one.nd, x_fnD (ok_less_one T) (b, i) hr (a_cons (x_var 0) (a_cons (x_var 3) a_nil)) ⟨h3.1, hi⟩⟩
  refine hb_frz ?_
  have hb8 := butB_few h3
  have hbk := butB_K3 h3
  refine hb_lc 2 (α := Bk) (PI := (· = (butB b).map bD)) (PL := (· = (butF b).map bD)) (own := [("each", 4)]) (sl := [4]) (O' := []) bD (fun c Γ => Γ.set 4 (some (bD c))) kept (fun c d => d = bD c) (i_list (x_if (PT := fun c => c = !((List.range b.2.length).map fun i => bD (lessQ b i)).isEmpty) (t_neNil hr (x_var 1)) (fun hc => (x_var 1).is ?_) (fun hc => Ev.is (EvO.lst (o_lst (a_cons (x_var 0) a_nil))) ?_))) c_but_one.nd (blk n_but_one (defScope s_but_one)) (by simp) (fun ds e => ⟨butB b, e, by omega, fun c hc Y hY => ?_, fun ys hy => ?_⟩) (fun ds e => ?_) (fun _ h => by cases h) (by show 2 < 5; decide)
  · have hne : b.2.length ≠ 0 := fun z => by rw [z] at hc; cases hc
    unfold butB
    rw [if_neg hne, List.map_map]
    rfl
  · have hz : b.2.length = 0 := by
      cases e : b.2.length with
      | zero => rfl
      | succ n => rw [e, List.range_succ_eq_map] at hc; cases hc
    unfold butB
    rw [if_pos hz]
    rfl
  · obtain ⟨_, _, _, _, _, rfl⟩ := hY
    exact ⟨tg_name 4 c_but_one.nd, ts_one (t_bl (x_fnD (ok_is_kept_by_some T) c hr (a_cons (x_var 4) a_nil) (hbk c hc).1)), fun _ => x_var 4⟩
  · exact hy.map
  · subst e
    refine hb_frz ?_
    refine hb_ifR (t_eqNil hr (x_var 2)) (fun hc => ?_) (fun hc => ?_)
    · have hbad : butF b = [] := by
        have := List.isEmpty_iff.mp hc.symm
        exact List.map_eq_nil_iff.mp this
      exact hb_raise T bxX_takes fun _ B' H' st => hE hbad B' H' st
    · refine hb_ret (x_var 2) fun d e => ⟨fun z => ?_, e⟩
      rw [z] at hc
      cases hc
theorem ok_least_but_one (T : Fac K mg) : OkX P w K mg base "least_but_one" 11 ["book", "payoff"] (PmB K (He.ga K "NotSound") (fun a : Bk × List Int => [bD a.1, .tup (a.2.map D.int)]) (fun a => K3 a.1 ∧ PayOk a.1.1 a.2) (fun a => butF a.1 = []) (fun a d => d = frD (lowB a.1 a.2))) := by
  refine okX (f_least_but_one T) (g_least_but_one T) c_least_but_one (fun _ => rfl) ?_
  rintro cdv Ar outer s E J B H ⟨b, pay⟩ hr ⟨h3, hp⟩ hE
  have h3 : K3 b := h3
  have hp : PayOk b.1 pay := hp
  refine hb_expr (P := (· = .non)) (x_fnD (val := fun _ => .non) (ok_check_book T) b hr (a_cons (x_var 0) a_nil) trivial) ?_
  refine hb_expr (P := (· = .non)) (x_fnD (val := fun _ => .non) (ok_check_payoff T) (pay, b.1) hr (a_cons (x_var 1) (a_cons (x_out (b := b) T hr (by decide) (x_var 0)) a_nil)) ⟨hp, h3.1.hi⟩) ?_
  by_cases hbad : butF b = []
  · exact r_ret (r_arg (ok_least_in T) hr (r_lc (own := [("each", 2)]) (r_fn (ok_but_one T) b hr (a_cons (x_var 0) a_nil) h3 hbad bxX_takes (fun _ B' H' st => hE hbad B' H' st)) c_least_but_one.nd (blk n_least_but_one (defScope s_least_but_one))))
  · have hf := butF_few h3
    have hall := butF_ok h3
    obtain ⟨c0, cs, e⟩ : ∃ c cs, butF b = c :: cs := by
      cases e : butF b with
      | nil => exact absurd e hbad
      | cons c cs => exact ⟨c, cs, rfl⟩
    have hsz : ∀ x ∈ (butF b).map (fun c => leastF c pay), Sz 10000 x := fun x hx => by
      obtain ⟨c, hc, rfl⟩ := List.mem_map.mp hx
      obtain ⟨q1, q2, q3⟩ := hall c hc
      exact sz_mono (leastF_sz q1 (by rw [q2]; exact hp) q3) (by decide)
    refine hb_ret (x_fnD (ok_least_in T) (leastF c0 pay, cs.map fun c => leastF c pay) hr (a_cons (EvO.lst (EvO.is (o_lc [("each", 2)] [2] (xs := butF b) bD (fun c Γ => Γ.set 2 (some (bD c))) (fun c => frD (leastF c pay)) (i_list (x_fnXD (ok_but_one T) b hr (a_cons (x_var 0) a_nil) h3 hbad)) c_least_but_one.nd (blk n_least_but_one (defScope s_least_but_one)) (by omega) ?_) (by rw [e, List.map_cons, List.map_cons, List.map_map]; rfl))) a_nil) ⟨?_, ?_⟩) fun d ed => ⟨hbad, ?_⟩
    · rintro c hc Y ⟨_, _, _, _, _, rfl⟩
      obtain ⟨q1, q2, q3⟩ := hall c hc
      exact ⟨tg_name 2 c_least_but_one.nd, x_fnD (ok_least_by T) (c, pay) hr (a_cons (x_var 2) (a_cons (x_var 1) a_nil)) ⟨q1, by rw [q2]; exact hp, q3⟩⟩
    · show (cs.map _).length ≤ 100
      rw [e, List.length_cons] at hf
      rw [List.length_map]
      omega
    · rw [e] at hsz
      exact hsz
    · rw [ed]
      show frD _ = frD (lowB b pay)
      unfold lowB
      rw [e]
      rfl
theorem ok_greatest_but_one (T : Fac K mg) : OkX P w K mg base "greatest_but_one" 11 ["book", "payoff"] (PmB K (He.ga K "NotSound") (fun a : Bk × List Int => [bD a.1, .tup (a.2.map D.int)]) (fun a => K3 a.1 ∧ PayOk a.1.1 a.2) (fun a => butF a.1 = []) (fun a d => d = frD (highB a.1 a.2))) := by
  refine okX (f_greatest_but_one T) (g_greatest_but_one T) c_greatest_but_one (fun _ => rfl) ?_
  rintro cdv Ar outer s E J B H ⟨b, pay⟩ hr ⟨h3, hp⟩ hE
  have h3 : K3 b := h3
  have hp : PayOk b.1 pay := hp
  refine hb_expr (P := (· = .non)) (x_fnD (val := fun _ => .non) (ok_check_book T) b hr (a_cons (x_var 0) a_nil) trivial) ?_
  refine hb_expr (P := (· = .non)) (x_fnD (val := fun _ => .non) (ok_check_payoff T) (pay, b.1) hr (a_cons (x_var 1) (a_cons (x_out (b := b) T hr (by decide) (x_var 0)) a_nil)) ⟨hp, h3.1.hi⟩) ?_
  by_cases hbad : butF b = []
  · exact r_ret (r_arg (ok_greatest_in T) hr (r_lc (own := [("each", 2)]) (r_fn (ok_but_one T) b hr (a_cons (x_var 0) a_nil) h3 hbad bxX_takes (fun _ B' H' st => hE hbad B' H' st)) c_greatest_but_one.nd (blk n_greatest_but_one (defScope s_greatest_but_one))))
  · have hf := butF_few h3
    have hall := butF_ok h3
    obtain ⟨c0, cs, e⟩ : ∃ c cs, butF b = c :: cs := by
      cases e : butF b with
      | nil => exact absurd e hbad
      | cons c cs => exact ⟨c, cs, rfl⟩
    have hsz : ∀ x ∈ (butF b).map (fun c => greatF c pay), Sz 10000 x := fun x hx => by
      obtain ⟨c, hc, rfl⟩ := List.mem_map.mp hx
      obtain ⟨q1, q2, q3⟩ := hall c hc
      exact sz_mono (greatF_sz q1 (by rw [q2]; exact hp) q3) (by decide)
    refine hb_ret (x_fnD (ok_greatest_in T) (greatF c0 pay, cs.map fun c => greatF c pay) hr (a_cons (EvO.lst (EvO.is (o_lc [("each", 2)] [2] (xs := butF b) bD (fun c Γ => Γ.set 2 (some (bD c))) (fun c => frD (greatF c pay)) (i_list (x_fnXD (ok_but_one T) b hr (a_cons (x_var 0) a_nil) h3 hbad)) c_greatest_but_one.nd (blk n_greatest_but_one (defScope s_greatest_but_one)) (by omega) ?_) (by rw [e, List.map_cons, List.map_cons, List.map_map]; rfl))) a_nil) ⟨?_, ?_⟩) fun d ed => ⟨hbad, ?_⟩
    · rintro c hc Y ⟨_, _, _, _, _, rfl⟩
      obtain ⟨q1, q2, q3⟩ := hall c hc
      exact ⟨tg_name 2 c_greatest_but_one.nd, x_fnD (ok_greatest_by T) (c, pay) hr (a_cons (x_var 2) (a_cons (x_var 1) a_nil)) ⟨q1, by rw [q2]; exact hp, q3⟩⟩
    · show (cs.map _).length ≤ 100
      rw [e, List.length_cons] at hf
      rw [List.length_map]
      omega
    · rw [e] at hsz
      exact hsz
    · rw [ed]
      show frD _ = frD (highB b pay)
      unfold highB
      rw [e]
      rfl
theorem ok_Lends (T : Fac K mg) : Ok P w K mg base "_law_ends" 12 ["_law_book_here", "_law_payoff_here"] (Pm K (fun a : Bk × List Int => [bD a.1, .tup (a.2.map D.int)]) (fun a => K3 a.1 ∧ PayOk a.1.1 a.2) (fun a d => d = endsD a.1 a.2)) := by
  refine okD (f_Lends T) (g_Lends T) c_Lends (fun _ => rfl) ?_
  rintro cdv Ar outer s E J B H ⟨b, pay⟩ hr ⟨h3, hp⟩
  refine hb_tryN (P := fun d => d = endsD b pay) T fun pn xe Wt B1 H1 tk hW => ?_
  by_cases hbad : butF b = []
  · have e : endsD b pay = .str "none" := by unfold endsD; rw [hbad]; rfl
    exact r_ret (r_lst (r_fn (ok_least_but_one T) (b, pay) hr (a_cons (x_var 0) (a_cons (x_var 1) a_nil)) ⟨h3, hp⟩ hbad tk (hW e.symm)))
  · have e : endsD b pay = .lst [frD (lowB b pay), frD (highB b pay)] := by
      unfold endsD
      rw [if_neg fun z => hbad (List.isEmpty_iff.mp z)]
    exact hb_ret (EvO.lst (o_lst (a_cons (x_fnXD (ok_least_but_one T) (b, pay) hr (a_cons (x_var 0) (a_cons (x_var 1) a_nil)) ⟨h3, hp⟩ hbad) (a_cons (x_fnXD (ok_greatest_but_one T) (b, pay) hr (a_cons (x_var 0) (a_cons (x_var 1) a_nil)) ⟨h3, hp⟩ hbad) a_nil)))) fun d ed => ed.trans e.symm
end
end Z
end
section
set_option Elab.async false
set_option linter.all false
set_option maxRecDepth 100000
set_option maxHeartbeats 400000
namespace Z
open PySem PySem.Spec PyProof.Rows L2 RZ
theorem maxI_ex : ∀ (ns : List Int), 0 < ns.length → ∃ m ∈ ns, ∀ y ∈ ns, y ≤ m
  | [n], _ => ⟨n, by simp, fun y hy => by simp at hy; omega⟩
  | n :: m :: ns, _ => by
    obtain ⟨x, h1, h2⟩ := maxI_ex (m :: ns) (by simp)
    by_cases h : x ≤ n
    · refine ⟨n, by simp, fun y hy => ?_⟩
      rcases List.mem_cons.mp hy with e | e
      · omega
      · have := h2 y e
        omega
    · refine ⟨x, List.mem_cons_of_mem _ h1, fun y hy => ?_⟩
      rcases List.mem_cons.mp hy with e | e
      · omega
      · exact h2 y e
/-- a chance of the law -/
def Cl (k : Nat) (c : List Fr) : Prop := (∃ ps, Parts k c ps) ∧ ChSz c
theorem Parts.clen {k : Nat} {c : List Fr} {ps : List Int} (h : Parts k c ps) : c.length = k := by rw [h.eq, List.length_map]; exact h.len
theorem Drawn.cl {k : Nat} {ch : List Fr} {ps : List Int} (hD : Drawn k ch ps) (hk : k ≤ 6) : Cl k ch := by
  have hW := hD.pos
  have hle := hD.le
  have hchl : ch.length = k := by rw [hD.eq, List.length_map]; exact hD.len
  refine ⟨⟨ps, hD.parts⟩, by omega, fun c hc => ?_⟩
  rw [hD.eq] at hc
  obtain ⟨p, hp, rfl⟩ := List.mem_map.mp hc
  have := hD.pt p hp
  exact low_sz ⟨Nat.lt_of_lt_of_le (show p.natAbs < 2 ^ 5 by omega) (pow_le (by decide)), hW, Nat.lt_of_lt_of_le (show ps.sum.natAbs < 2 ^ 5 by omega) (pow_le (by decide))⟩
section
variable {X : Cx} {J : Jx} {B0 H0 : Hp} {Γ : Gam} {O O' : Own} {N : Sp3} {R : Rp} {rest : List Stmt} {e iter elt tg : Expr} {pos : Pos} {scope : Scope}
/-- y = [g x for x in xs if keep x] -/
theorem hb_lcI {α : Type} (n : Nat) (own : List (Str × Nat)) (sl : List Nat) {xs : List α} (c : α → D) (f : α → Gam → Gam) (keep : α → Bool) (g : α → D) {y : Str} {py spos : Pos} (hi : EvI X J Γ tg iter (· = xs.map c)) (hN : X.N.Nodup) (ok : BlkOk X.N X.env.scope scope own) (hl : xs.length ≤ 100000)
    (hx : ∀ x ∈ xs, ∀ Y, Blk X scope Y → Tg Y J tg (c x) sl (f x) ∧ EvT Y J (f x (wipeG Γ (own.map (·.2)))) e (· = keep x) ∧ (keep x = true → Ev Y J (f x (wipeG Γ (own.map (·.2)))) elt (· = g x))) (k : HB X rest (SX X J B0 H0 (Γ.set n none) ((n, (xs.filter keep).map g) :: O')) N R) (hO : ∀ q ∈ O', q ∈ O ∧ q.1 ≠ n) (hn : n < Γ.length) (hsl : ∀ k ∈ sl, k ∈ own.map (·.2) := by simp) (hy : X.N[n]? = some y := by rfl) (hyl : X.env.scope.names.lookup y = some .local := by rfl)
    (hsw : swapsWith (.ListComp elt [⟨tg, iter, [e], 0⟩] scope pos) (some (.Name y py)) spos.line X.env = pure true := by first | rfl | exact sw_true rfl rfl rfl rfl) (hc : X.calm = true := by rfl) (hs : ∀ x, foldedSetIterable iter X.env x = pure x := by intro _; rfl) :
    HB X (.Assign [.Name y py] (.ListComp elt [⟨tg, iter, [e], 0⟩] scope pos) spos :: rest) (SX X J B0 H0 Γ O) N R :=
  hb_lc n (PL := (· = (xs.filter keep).map g)) c f keep (fun x y => y = g x) hi hN ok hsl (fun ds e => ⟨xs, e, hl, fun x hm Y hY => ⟨(hx x hm Y hY).1, ts_one (hx x hm Y hY).2.1, (hx x hm Y hY).2.2⟩, fun ys hy => hy.map⟩) (fun ds e => by subst e; exact k) hO hn hy hyl hsw hc hs
end
section
variable {P : Program} {w : World} {K : PySem.W.Frag} {mg : Str → Option Value} {base : Heap}
theorem ok_Lleft_right (T : Fac K mg) : Ok P w K mg base "_law_left_right" 9 ["_law_jar_here", "_law_own", "_law_size", "_law_spots"] (Pm K (fun a : Bk × List (List Fr) => [.jar, .tup (a.1.2.map qD), .int (a.1.1 : Nat), .lst (a.2.map chD)]) (fun a => K3 a.1 ∧ a.2.length ≤ 900 ∧ ∀ c ∈ a.2, Cl a.1.1 c) (fun _ d => d = .bl true)) := by
  refine okD (f_Lleft_right T) (g_Lleft_right T) c_Lleft_right (fun _ => rfl) ?_
  rintro cdv Ar outer s E J B H ⟨⟨k, qs⟩, sp⟩ hr ⟨h3, hl, hsp⟩
  have h3 : K3 (k, qs) := h3
  have hl : sp.length ≤ 900 := hl
  have hsp : ∀ c ∈ sp, Cl k c := hsp
  have hk := h3.two
  have h8 : qs.length ≤ 8 := h3.1.few
  have hq := h3.q
  refine hb_asg 4 (O' := []) (P := fun d => ∃ cs : List (List Fr), d = .lst (cs.map chD) ∧ cs.length ≤ 1000 ∧ ∀ c ∈ cs, Cl k c) (EvO.ev (o_catP (PA := (· = sp.map chD)) (PB := fun ys => ∃ cs : List (List Fr), ys = cs.map chD ∧ cs.length = 4 ∧ ∀ c ∈ cs, Cl k c) (PL := fun zs => ∃ cs : List (List Fr), zs = cs.map chD ∧ cs.length ≤ 1000 ∧ ∀ c ∈ cs, Cl k c) ((x_var 3).weak fun d e => ⟨_, e, rfl⟩) (EvO.ev (lcP (α := Nat) (PL := fun ys => ∃ cs : List (List Fr), ys = cs.map chD ∧ cs.length = 4 ∧ ∀ c ∈ cs, Cl k c) (own := [("_law_turn", 7)]) (sl := [7]) (fun (i : Nat) => D.int (i : Int)) (fun i Γ => Γ.set 7 (some (.int (i : Nat)))) (fun _ => true) (fun _ d => ∃ c, d = chD c ∧ Cl k c) (i_range1 (n := 4) x_int (by decide) (b_range T)) c_Lleft_right.nd (blk n_Lleft_right (defScope s_Lleft_right)) (by simp) (fun ds e => ⟨List.range 4, e, by decide, fun i hi Y hY => ?_, fun ys hy => ?_⟩)) (fun ds h => ⟨ds, rfl, h⟩)) (fun xs ys e1 h => ?_)) (fun ds ⟨cs, e, h⟩ => ⟨cs, by rw [e], h⟩)) ?_ (fun _ h => by cases h) c_Lleft_right.nd
  · obtain ⟨_, _, _, _, _, rfl⟩ := hY
    exact ⟨tg_name 7 c_Lleft_right.nd, ts_nil, fun _ => x_fn (ok_Lchance T) hr (by decide) (a_cons (x_var 0) (a_cons (x_var 2) a_nil)) (fun ds e => ⟨k, e, hk, fun d ⟨ch, ps, e, hD⟩ => ⟨ch, e, hD.cl (by omega)⟩⟩)⟩
  · obtain ⟨bs, e1, e2, e3⟩ := made_all (c := chD) (Q := Cl k) (fun x y h => h) hy
    exact ⟨bs, e1, by rw [e2]; rfl, e3⟩
  · obtain ⟨cs, e2, e4, h⟩ := h
    subst e1 e2
    refine ⟨by rw [List.length_map, List.length_map]; omega, sp ++ cs, by rw [List.map_append], by rw [List.length_append]; omega, fun c hc => ?_⟩
    rcases List.mem_append.mp hc with z | z
    · exact hsp c z
    · exact h c z
  rintro _ ⟨cs, rfl, hcl, hcs⟩
  refine hb_forX (α := Unit) (xs := cs) [5] chD (fun c Γ => Γ.set 5 (some (chD c))) (fun _ _ => True) (fun _ _ => [some .jar, some (.tup (qs.map qD)), some (.int (k : Nat)), some (.lst (sp.map chD)), some (.lst (cs.map chD)), none, none, none, none, none, none]) (fun _ _ => []) () (i_list (x_var 4)) trivial (fun _ _ _ s => s) (fun c _ => tg_name 5 c_Lleft_right.nd) (fun _ _ q h => by cases h) (fun i c _ hci _ => ?_) (fun _ _ => ?_) PassesOwn.never
  · obtain ⟨⟨ps, hps⟩, hsz⟩ := hcs c (List.mem_of_getElem? hci)
    have hclen := hps.clen
    refine hb_lcI 6 [("_law_each", 8)] [8] (xs := qs) qD (fun q Γ => Γ.set 8 (some (qD q))) (fun q => fless (worth q.1 c) q.2) qD (i_tup (x_var 1)) c_Lleft_right.nd (blk n_Lleft_right (defScope s_Lleft_right)) (by omega) ?_ (O' := []) ?_ (fun _ h => by cases h) (by show 6 < 11; decide)
    · rintro q hqm Y ⟨_, _, _, _, _, rfl⟩
      have hQ := hq q hqm
      exact ⟨tg_name 8 c_Lleft_right.nd, t_bl (x_fnD (ok_Lless T) (worth q.1 c, q.2) hr (a_cons (x_fnD (ok_Lworth T) (q.1, c) hr (a_cons (x_ixT (x_var 8) x_int rfl) (a_cons (x_var 5) a_nil)) ⟨by show q.1.length = c.length; rw [hQ.len, hclen], hQ.pay, hsz⟩) (a_cons (x_ixT (x_var 8) x_int rfl) a_nil)) ⟨sz_mono (worth_sz hQ.pay hsz) (by decide), sz_mono hQ.pr.sz2 (by decide)⟩), fun _ => x_var 8⟩
    refine hb_frz ?_
    obtain ⟨m0, hm0, hge0⟩ := maxI_ex (c.map fun f => f.2) (by rw [List.length_map]; omega)
    refine hb_cons (M := fun σ B' H' => ∃ _y' : Unit, True ∧ S K J B H [some .jar, some (.tup (qs.map qD)), some (.int (k : Nat)), some (.lst (sp.map chD)), some (.lst (cs.map chD)), none, none, none, none, none, none] [] σ B' H') (hs_if (PT := fun t => t = decide (m0 ≤ 10 ^ 6)) (t_le (x_maxL (ns := c.map fun f => f.2) (b_max T) (EvO.lst (EvO.is (o_lc [("_law_top", 9), ("_law_bottom", 10)] [9, 10] (xs := c) frD (fun f Γ => (Γ.set 9 (some (.int f.1))).set 10 (some (.int f.2))) (fun f => D.int f.2) (i_tup (x_var 5)) c_Lleft_right.nd (blk n_Lleft_right (defScope s_Lleft_right)) (by omega) ?_) (ds' := (c.map fun f => f.2).map D.int) (by rw [List.map_map]; rfl))) (by rw [List.length_map]; omega) (fun m hm hge => congrArg D.int (by have := hge _ hm0; have := hge0 _ hm; omega))) (x_pow x_int x_int (by unfold CPow; decide))) (fun hc => ?_) (fun hc => hb_nil fun σ B' H' s' => ⟨(), trivial, s'.sub (sub_same (sub_same (sub_same (sub_same (sub_same (sub_none (sub_none (sub_none (sub_none (sub_none (sub_none sub_nil)))))))))))⟩)) (hb_nil fun σ B' H' h => h)
    · rintro f hf Y ⟨_, _, _, _, _, rfl⟩
      exact ⟨tg_pair 9 10 c_Lleft_right.nd, x_var 10⟩
    · have hle : m0 ≤ 1000000 := by
        have := of_decide_eq_true hc.symm
        exact this
      have hch : ChOk k c := hps.chOk (by omega) fun f hf => by
        have := hge0 f.2 (List.mem_map_of_mem hf)
        omega
      refine hb_ifR (PT := fun t => t = false) ((t_ne (x_fnD (ok_is_left T) ((k, qs), c) hr (a_cons (x_Book (bk := (k, qs)) T hr (by decide) (a_cons (x_var 2) (a_cons (x_var 1) a_nil)) h3.1) (a_cons (x_var 5) a_nil)) ⟨h3.1, hch⟩) (x_lt (x_lenL (b_len T) (x_var 6)) x_int)).weak fun t e => ?_) (fun z => by cases z) (fun _ => hb_nil fun σ B' H' s' => ⟨(), trivial, s'.sub (sub_same (sub_same (sub_same (sub_same (sub_same (sub_none (sub_none (sub_none (sub_none (sub_none (sub_none sub_nil)))))))))))⟩)
      rw [e, Bool.not_eq_false', decide_eq_true_iff]
      refine congrArg V.bl ?_
      rw [List.length_map]
      exact decide_eq_decide.mpr (Int.ofNat_lt (n := (broken qs c).length) (m := 2)).symm
  · exact hb_ret x_bl fun _ e => e
end
end Z
end
section
set_option Elab.async false
set_option linter.all false
set_option maxRecDepth 100000
set_option maxHeartbeats 1000000
namespace Z
open PySem PySem.Spec PyProof.Rows L2 RZ
theorem pls_ints : ∀ ns : List Int, pls (ns.map D.int) = true ∧ dpts (ns.map D.int) = 0
  | [] => by simp [pls, dpts]
  | n :: ns => by
    obtain ⟨h1, h2⟩ := pls_ints ns
    simp [pls, dpts, pl, dpt, h1, h2]
theorem pls_nats : ∀ ns : List Nat, pls (ns.map fun (i : Nat) => D.int (i : Int)) = true ∧ dpts (ns.map fun (i : Nat) => D.int (i : Int)) = 0
  | [] => by simp [pls, dpts]
  | n :: ns => by
    obtain ⟨h1, h2⟩ := pls_nats ns
    simp [pls, dpts, pl, dpt, h1, h2]
theorem pl_two (a b : Fr) : pl (.lst [frD a, frD b]) = true ∧ dpt (.lst [frD a, frD b]) ≤ 60 := by
  simp [pl, pls, dpt, dpts]
theorem pl_due (pay : List Int) (cs : List (List Fr)) : pl (dueD pay cs) = true ∧ dpt (dueD pay cs) ≤ 60 := by
  unfold dueD
  split
  · exact ⟨by decide +kernel, by decide⟩
  · exact pl_two _ _
theorem spots_step (k : Nat) (qs : List Qt) (i : Nat) : (((List.range (i + 1)).map fun j => lawCor k (lessQ (k, qs) j).2).flatten) = ((List.range i).map fun j => lawCor k (lessQ (k, qs) j).2).flatten ++ lawCor k (lessQ (k, qs) i).2 := by
  rw [List.range_succ, List.map_append, List.flatten_append]
  simp
theorem spots_len {k : Nat} {qs : List Qt} (h : K3 (k, qs)) : ∀ i, (((List.range i).map fun j => lawCor k (lessQ (k, qs) j).2).flatten).length ≤ i * 144
  | 0 => by simp
  | i + 1 => by
    have h1 := spots_len h i
    have h2 := cor_few (k := k) (qs := (lessQ (k, qs) i).2) (h.less i)
    rw [spots_step, List.length_append]
    omega
theorem spots_cl {k : Nat} {qs : List Qt} (h : K3 (k, qs)) : ∀ c ∈ spots k qs, Cl k c ∧ c.length = k ∧ ∀ f ∈ c, Sz 90 f := fun c hc => by
  obtain ⟨i, hi, hc⟩ := spots_mem.mp hc
  have h1 := cor_parts (k := k) (qs := (lessQ (k, qs) i).2) (h.less i) c hc
  obtain ⟨h2, h3⟩ := cor_sz (k := k) (qs := (lessQ (k, qs) i).2) (h.less i) c hc
  have hk := h.two
  exact ⟨⟨h1, by omega, fun f hf => sz_mono (h3 f hf) (by decide)⟩, h2, h3⟩
theorem lowB_sz {b : Bk} {pay : List Int} (h : K3 b) (hp : PayOk b.1 pay) (hne : butF b ≠ []) : Sz 100 (lowB b pay) := by
  have m := minOf_min (xs := (butF b).map fun c => leastF c pay) (by simpa using hne) (but_pos h hp)
  obtain ⟨c, hc, e⟩ := List.mem_map.mp m.1
  obtain ⟨q1, q2, q3⟩ := butF_ok h c hc
  have := leastF_sz q1 (pay := pay) (by rw [q2]; exact hp) q3
  unfold lowB
  rw [← e]
  exact this
theorem ends_two {b : Bk} {pay : List Int} (h : butF b ≠ []) : endsD b pay = .lst [frD (lowB b pay), frD (highB b pay)] := by
  unfold endsD
  rw [if_neg fun z => h (List.isEmpty_iff.mp z)]
section
variable {P : Program} {w : World} {K : PySem.W.Frag} {mg : Str → Option Value} {base : Heap}
theorem ok_Lright (T : Fac K mg) : Ok P w K mg base "_law_right" 13 ["_law_jar_here"] (Pm K (fun _ : Unit => [.jar]) (fun _ => True) (fun _ d => d = .bl true)) := by
  refine okD (f_Lright T) (g_Lright T) c_Lright (fun _ => rfl) ?_
  intro cdv Ar outer s E J B H _ hr _
  refine hb_forN (α := Unit) 1 (n := 2) (fun _ _ => True) (fun _ _ => [some .jar, none, none, none, none, none, none, none, none, none, none, none, none, none]) (fun _ _ => []) () x_int (by decide) (b_range T) trivial (fun _ _ _ s => s) (fun _ _ q hq => by cases hq) (fun i _ _ _ => ?_) (fun _ _ => hb_ret x_bl fun _ e => e) PassesOwn.never c_Lright.nd
  -- the size
  refine hb_asg 2 (O' := []) (P := fun d => ∃ k : Nat, d = .int (k : Nat) ∧ (k = 2 ∨ k = 3)) (x_addP (PA := (· = .int 2)) (PB := below 2) x_int (x_fn (ok_Ldip T) hr (by decide) (a_cons (x_var 0) (a_cons x_int a_nil)) (fun ds e => ⟨2, e, ⟨by decide, by decide⟩, fun d h => h⟩)) (fun x y e1 ⟨n, e2, h1, h2⟩ => ⟨2, n, e1, e2, (2 + n).toNat, by rw [show (((2 + n).toNat : Nat) : Int) = 2 + n by omega], by omega⟩)) ?_ (fun _ h => by cases h) c_Lright.nd
  rintro _ ⟨k, rfl, hk⟩
  -- the quotes
  refine hb_asg 3 (O' := []) (P := fun d => ∃ qs : List Qt, d = .tup (qs.map qD) ∧ (qs.length = 2 ∨ qs.length = 3) ∧ ∀ q ∈ qs, QtOk k q) (x_fn (ok_Lbad T) hr (by decide) (a_cons (x_var 0) (a_cons (x_var 2) (a_cons x_int a_nil))) (fun ds e => ⟨k, e, hk, fun d h => h⟩)) ?_ (fun _ h => by cases h) c_Lright.nd
  rintro _ ⟨qs, rfl, hql, hq⟩
  have h3 : K3 (k, qs) := ⟨⟨by show 2 ≤ k; omega, by show k ≤ 6; omega, by show qs.length ≤ 8; omega, hq⟩, hk⟩
  have h1 : 1 ≤ qs.length := by omega
  -- the book, the payoff
  refine hb_par 4 5 (ta := fun ds => ∃ pay : List Int, ds = [bD (k, qs), .tup (pay.map D.int)] ∧ PayOk k pay) (a_consP (PA := (· = bD (k, qs))) (PS := fun ds => ∃ pay : List Int, ds = [.tup (pay.map D.int)] ∧ PayOk k pay) (x_Book (bk := (k, qs)) T hr (by decide) (a_cons (x_var 2) (a_cons (x_var 3) a_nil)) h3.1) (a_consP (PA := fun d => ∃ pay : List Int, d = .tup (pay.map D.int) ∧ PayOk k pay) (PS := (· = [])) (x_fn (ok_Lpayoff T) hr (by decide) (a_cons (x_var 0) (a_cons (x_var 2) (a_cons x_int a_nil))) (fun ds e => ⟨(k, 9), e, ⟨by show k ≤ 6; omega, by show (0 : Int) ≤ 9; decide, by show (9 : Int) ≤ 9; decide⟩, fun d ⟨pay, e, hl, hb⟩ => ⟨pay, e, hl, fun n hn => by have := hb n hn; dsimp only at this; omega⟩⟩)) a_nil (fun d ds ⟨pay, e, h⟩ e2 => ⟨pay, by rw [e, e2], h⟩)) (fun d ds e ⟨pay, e2, h⟩ => ⟨pay, by rw [e, e2], h⟩)) (fun d1 d2 hd => ?_) (fun ds ⟨pay, e, _⟩ => by rw [e]; rfl) rfl c_Lright.nd (by decide)
  obtain ⟨pay, e, hp⟩ := hd
  injection e with e1 e
  injection e with e2 e
  subst e1 e2
  have hplen : 0 < pay.length := by have := hp.1; omega
  -- the lists of corners
  refine hb_set 6 (EvO.lst (o_lc [("_law_k", 13)] [13] (xs := List.range qs.length) (fun (i : Nat) => D.int (i : Int)) (fun i Γ => Γ.set 13 (some (.int (i : Nat)))) (fun i => D.lst ((lawCor k (lessQ (k, qs) i).2).map chD)) (i_range1 (n := (qs.length : Nat)) ((x_lenT (b_len T) (x_var 3)).is (by rw [List.length_map])) (by omega) (b_range T)) c_Lright.nd (blk n_Lright (defScope s_Lright)) (by rw [List.length_range]; omega) ?_)) ?_ c_Lright.nd
  · rintro i hi Y ⟨_, _, _, _, _, rfl⟩
    have hi := List.mem_range.mp hi
    have hL := h3.less i
    refine ⟨tg_name 13 c_Lright.nd, x_fnD (ok_Lcorners T) (k, (lessQ (k, qs) i).2) hr (a_cons (x_var 2) (a_cons (Ev.is (x_catT (xs := (qs.take i).map qD) (ys := (qs.drop (i + 1)).map qD) ((x_slT (x_var 3) ep_none (ep_some (i := (i : Nat)) (x_var 13))).is (by rw [cut_to (Nat.le_of_lt hi)])) ((x_slT (x_var 3) (ep_some (i := ((i + 1 : Nat) : Int)) ((x_add (x_var 13) x_int).is (by simp))) ep_none).is (by rw [cut_from (by omega)])) (by rw [List.length_map, List.length_map, List.length_take, List.length_drop]; omega)) (d' := .tup (((lessQ (k, qs) i).2).map qD)) (by rw [← List.map_append]; rfl)) a_nil)) ⟨hk, hL.1.few, hL.1.qs⟩⟩
  -- the spots
  refine hb_set 7 (EvO.lst (o_lst a_nil)) ?_ c_Lright.nd
  refine hb_forX (α := Unit) (xs := List.range qs.length) [8] (fun i => D.lst ((lawCor k (lessQ (k, qs) i).2).map chD)) (fun i Γ => Γ.set 8 (some (D.lst ((lawCor k (lessQ (k, qs) i).2).map chD)))) (fun _ _ => True) (fun i _ => [some .jar, none, some (.int (k : Nat)), some (.tup (qs.map qD)), some (bD (k, qs)), some (.tup (pay.map D.int)), some (.lst ((List.range qs.length).map fun i => D.lst ((lawCor k (lessQ (k, qs) i).2).map chD))), some (.lst ((((List.range i).map fun j => lawCor k (lessQ (k, qs) j).2).flatten).map chD)), none, none, none, none, none, none]) (fun _ _ => []) () (i_list (x_var 6)) trivial (fun _ _ _ s => s.sub (sub_same (sub_none (sub_same (sub_same (sub_same (sub_same (sub_same (sub_same (sub_none (sub_none (sub_none (sub_none (sub_none (sub_none sub_nil)))))))))))))) (by simp)) (fun i _ => tg_name 8 c_Lright.nd) (fun _ _ q h => by cases h) (fun i j _ hij _ => ?_) (fun _ _ => ?_) PassesOwn.never
  · have e : j = i := by
      have h := List.getElem?_eq_some_iff.mp hij
      obtain ⟨_, h⟩ := h
      rw [List.getElem_range] at h
      exact h.symm
    subst e
    have hj : j < qs.length := by
      have h := List.getElem?_eq_some_iff.mp hij
      obtain ⟨h, _⟩ := h
      rw [List.length_range] at h
      exact h
    have b1 := spots_len h3 j
    have b2 := cor_few (k := k) (qs := (lessQ (k, qs) j).2) (h3.less j)
    refine hb_set 7 (EvO.lst (o_cat (x_var 7) (x_var 8) (by rw [List.length_map, List.length_map]; omega))) (hb_nil fun σ B' H' s' => ⟨(), trivial, ?_⟩) c_Lright.nd
    rw [spots_step, List.map_append]
    exact s'.sub (sub_same (sub_same (sub_same (sub_same (sub_same (sub_same (sub_same (sub_same (sub_none (sub_none (sub_none (sub_none (sub_none (sub_none sub_nil))))))))))))))
  rw [List.length_range]
  have esp : ((List.range qs.length).map fun j => lawCor k (lessQ (k, qs) j).2).flatten = spots k qs := rfl
  have slen : (spots k qs).length ≤ 432 := by
    have := spots_len h3 qs.length
    rw [esp] at this
    omega
  rw [esp]
  clear esp
  have scl := spots_cl h3
  have edue := ends_due h3 h1 hp
  have hcor : CornersOk k (spots k qs) := ⟨by omega, fun c hc => ⟨(scl c hc).2.1, fun f hf => sz_mono ((scl c hc).2.2 f hf) (by decide)⟩⟩
  -- what is told
  refine hb_set 9 ((x_fnD (ok_Lends T) ((k, qs), pay) hr (a_cons (x_var 4) (a_cons (x_var 5) a_nil)) ⟨h3, hp⟩).is (d' := dueD pay (spots k qs)) edue) ?_ c_Lright.nd
  refine hb_set 10 x_str ?_ c_Lright.nd
  -- what is due
  refine hb_cons (M := fun σ B9 H9 => S K J B H [some .jar, none, some (.int (k : Nat)), some (.tup (qs.map qD)), some (bD (k, qs)), some (.tup (pay.map D.int)), some (.lst ((List.range qs.length).map fun i => D.lst ((lawCor k (lessQ (k, qs) i).2).map chD))), some (.lst ((spots k qs).map chD)), none, some (dueD pay (spots k qs)), some (dueD pay (spots k qs)), none, none, none] [] σ B9 H9) (hs_if (PT := fun c => c = !((spots k qs).map chD).isEmpty) (t_neNil hr (x_var 7)) (fun hc => ?_) (fun hc => hb_nil fun σ B' H' s' => ?_)) ?_
  · obtain ⟨c0, cs, e⟩ : ∃ c cs, spots k qs = c :: cs := by
      cases e : spots k qs with
      | nil => rw [e] at hc; cases hc
      | cons c cs => exact ⟨c, cs, rfl⟩
    have hcor' : CornersOk k (c0 :: cs) := by rw [← e]; exact hcor
    have ed : dueD pay (spots k qs) = .lst [frD (lleast (worth pay c0) ((c0 :: cs).map (worth pay))), frD (fneg (lleast (worth (pay.map fun n => -n) c0) ((c0 :: cs).map (worth (pay.map fun n => -n)))))] := by
      rw [e]
      rfl
    refine hb_set 10 ((EvO.lst (o_lst (a_cons (x_fnD (ok_Lleast_by T) (c0, cs, pay) hr (a_cons ((x_var 7).is (by rw [e])) (a_cons (x_var 5) a_nil)) ⟨k, by omega, hcor', hp⟩) (a_cons (x_fnD (ok_Lgreatest_by T) (c0, cs, pay) hr (a_cons ((x_var 7).is (by rw [e])) (a_cons (x_var 5) a_nil)) ⟨k, by omega, hcor', hp⟩) a_nil)))).is (d' := dueD pay (spots k qs)) ed.symm) (hb_nil fun σ B' H' s' => ?_) c_Lright.nd
    exact s'.sub (sub_same (sub_none (sub_same (sub_same (sub_same (sub_same (sub_same (sub_same (sub_none (sub_same (sub_same (sub_none (sub_none (sub_none sub_nil))))))))))))))
  · have e : spots k qs = [] := by
      have : ((spots k qs).map chD).isEmpty = true := by rw [← Bool.not_eq_false', ← hc]
      exact List.map_eq_nil_iff.mp (List.isEmpty_iff.mp this)
    have ed : dueD pay (spots k qs) = .str "none" := by rw [e]; rfl
    rw [ed]
    rw [ed] at s'
    exact s'.sub (sub_same (sub_none (sub_same (sub_same (sub_same (sub_same (sub_same (sub_same (sub_none (sub_same (sub_same (sub_none (sub_none (sub_none sub_nil))))))))))))))
  have hpd := pl_due pay (spots k qs)
  refine hb_ifR (PT := fun c => c = false) (t_or (PA := fun c => c = false) ((t_neD (r := true) hr (x_var 9) (x_var 10) hpd.1 hpd.1 hpd.2 hpd.2 ⟨fun _ => rfl, fun _ => rfl⟩).weak fun _ e => e) (fun _ => (t_notB (t_bl (x_fnD (val := fun _ => .bl true) (ok_Lleft_right T) ((k, qs), spots k qs) hr (a_cons (x_var 0) (a_cons (x_var 3) (a_cons (x_var 2) (a_cons (x_var 7) a_nil)))) ⟨h3, by show (spots k qs).length ≤ 900; omega, fun c hc => (scl c hc).1⟩))).weak fun _ e => e) (fun z => by cases z)) (fun z => by cases z) (fun _ => ?_)
  -- culprits
  refine hb_lcI 11 [("_law_k", 13)] [13] (xs := List.range qs.length) (fun (i : Nat) => D.int (i : Int)) (fun i Γ => Γ.set 13 (some (.int (i : Nat)))) (fun i => kept (lessQ (k, qs) i)) (fun (i : Nat) => D.int (i : Int)) (i_range1 (n := (qs.length : Nat)) ((x_lenT (b_len T) (x_var 3)).is (by rw [List.length_map])) (by omega) (b_range T)) c_Lright.nd (blk n_Lright (defScope s_Lright)) (by rw [List.length_range]; omega) ?_ (O' := []) ?_ (fun _ h => by cases h) (by show 11 < 14; decide)
  · rintro i hi Y ⟨_, _, _, _, _, rfl⟩
    have hi := List.mem_range.mp hi
    refine ⟨tg_name 13 c_Lright.nd, EvT.weak (t_neNil hr (x_ixL (x_var 6) (x_var 13) (d := D.lst ((lawCor k (lessQ (k, qs) i).2).map chD)) (by rw [atI_nat, List.getElem?_map, List.getElem?_range hi]; rfl))) (fun c e => ?_), fun _ => x_var 13⟩
    rw [e]
    have kn := key_ne (k := k) (qs := (lessQ (k, qs) i).2) (h3.less i)
    cases hke : kept (lessQ (k, qs) i) with
    | true =>
      have := kn.mpr hke
      cases hl : lawCor k (lessQ (k, qs) i).2 with
      | nil => exact absurd hl this
      | cons a b => rfl
    | false =>
      cases hl : lawCor k (lessQ (k, qs) i).2 with
      | nil => rfl
      | cons a b =>
        have := kn.mp (by rw [hl]; exact List.cons_ne_nil _ _)
        have this : kept (lessQ (k, qs) i) = true := this
        rw [hke] at this
        cases this
  refine hb_frz ?_
  have pn := pls_nats ((List.range qs.length).filter fun i => kept (lessQ (k, qs) i))
  refine hb_ifR (PT := fun c => c = false) (t_and (PA := fun c => c = !kept (k, qs)) (t_notB (t_bl (x_fnD (ok_is_sound T) (k, qs) hr (a_cons (x_var 4) a_nil) h3))) (fun hnk => ((t_neD (r := true) hr ((x_fnD (ok_culprits T) (k, qs) hr (a_cons (x_var 4) a_nil) h3).is (d' := .tup (((List.range qs.length).filter fun i => kept (lessQ (k, qs) i)).map fun (i : Nat) => D.int (i : Int))) ?_) (x_tuple (b_tuple T) (x_var 11)) ?_ ?_ ?_ ?_ ⟨fun _ => rfl, fun _ => rfl⟩).weak fun _ e => e)) (fun _ => rfl)) (fun z => by cases z) (fun _ => ?_)
  · have : kept (k, qs) = false := by rw [← Bool.not_eq_true', ← hnk]
    rw [this]
    rfl
  · unfold pl; exact pn.1
  · unfold pl; exact pn.1
  · unfold dpt; rw [pn.2]; decide
  · unfold dpt; rw [pn.2]; decide
  -- the least worth
  refine hb_ifR (PT := fun c => c = false) (t_and (PA := fun c => c = kept (k, qs)) (t_bl (x_fnD (ok_is_sound T) (k, qs) hr (a_cons (x_var 4) a_nil) h3)) (fun hkk => ?_) (fun _ => rfl)) (fun z => by cases z) (fun _ => ?_)
  · obtain ⟨hne, hless⟩ := told_ok h3 h1 hp hkk.symm
    have et : dueD pay (spots k qs) = .lst [frD (lowB (k, qs) pay), frD (highB (k, qs) pay)] := by rw [← edue]; exact ends_two hne
    exact (t_bl (x_fnD (ok_Lless T) (leastF (k, qs) pay, lowB (k, qs) pay) hr (a_cons (x_fnD (ok_least_worth T) ((k, qs), pay) hr (a_cons (x_var 4) (a_cons (x_var 5) a_nil)) ⟨h3, hp, hkk.symm⟩) (a_cons (x_ixL (ds := [frD (lowB (k, qs) pay), frD (highB (k, qs) pay)]) ((x_var 9).is et) x_int rfl) a_nil)) ⟨sz_mono (leastF_sz h3 hp hkk.symm) (by decide), sz_mono (lowB_sz (b := (k, qs)) h3 hp hne) (by decide)⟩)).weak fun _ e => e.trans hless
  -- the free book
  obtain ⟨mn, hmn, hmnle⟩ := minI_ex pay hplen
  obtain ⟨mx, hmx, hmxge⟩ := maxI_ex pay hplen
  have hpl2 := pl_two (mn, 1) (mx, 1)
  refine hb_set 12 ((x_fnD (ok_Lends T) ((k, []), pay) hr (a_cons (x_Book (bk := (k, [])) T hr (by decide) (a_cons (x_var 2) (a_cons (x_tup a_nil) a_nil)) (free_K3 hk).1) (a_cons (x_var 5) a_nil)) ⟨free_K3 hk, hp⟩).is (d' := .lst [frD (mn, 1), frD (mx, 1)]) (free_ends (free_butF hk) hk hp hmn hmnle hmx hmxge)) ?_ c_Lright.nd
  refine hb_ifR (PT := fun c => c = false) ((t_neD (r := true) hr (x_var 12) (EvO.lst (o_lst (ds := [frD (mn, 1), frD (mx, 1)]) (a_cons (x_tup (a_cons (x_minT (P := (· = .int mn)) hr (b_min T) (x_var 5) hplen (fun m hm hle => congrArg D.int (by have := hle _ hmn; have := hmnle _ hm; omega))) (a_cons x_int a_nil))) (a_cons (x_tup (a_cons (x_maxT (P := (· = .int mx)) hr (b_max T) (x_var 5) hplen (fun m hm hge => congrArg D.int (by have := hge _ hmx; have := hmxge _ hm; omega))) (a_cons x_int a_nil))) a_nil)))) hpl2.1 hpl2.1 hpl2.2 hpl2.2 ⟨fun _ => rfl, fun _ => rfl⟩).weak fun _ e => e) (fun z => by cases z) (fun _ => ?_)
  -- one quote
  obtain ⟨q0, qr, eqs⟩ : ∃ q r, qs = q :: r := by
    cases e : qs with
    | nil => rw [e] at h1; simp at h1
    | cons q r => exact ⟨q, r, rfl⟩
  have hb1 : K3 (k, [q0]) := ⟨⟨h3.1.lo, h3.1.hi, by show 1 ≤ 8; decide, fun q hqm => by rw [List.mem_singleton.mp hqm]; exact hq q0 (by rw [eqs]; exact List.mem_cons_self)⟩, hk⟩
  refine hb_ifR (PT := fun c => c = false) ((t_neD (r := true) hr ((x_fnD (ok_Lends T) ((k, [q0]), pay) hr (a_cons (x_Book (bk := (k, [q0])) T hr (by decide) (a_cons (x_var 2) (a_cons ((x_slT (x_var 3) ep_none (ep_some (i := ((1 : Nat) : Int)) x_int)).is ?_) a_nil)) hb1.1) (a_cons (x_var 5) a_nil)) ⟨hb1, hp⟩).is (d' := .lst [frD (mn, 1), frD (mx, 1)]) (free_ends (one_butF hk) hk hp hmn hmnle hmx hmxge)) (x_var 12) hpl2.1 hpl2.1 hpl2.2 hpl2.2 ⟨fun _ => rfl, fun _ => rfl⟩).weak fun _ e => e) (fun z => by cases z) (fun _ => ?_)
  · rw [cut_to (by omega), eqs]
    rfl
  exact hb_nil fun σ B' H' s' => ⟨(), trivial, s'.sub (sub_same (sub_none (sub_none (sub_none (sub_none (sub_none (sub_none (sub_none (sub_none (sub_none (sub_none (sub_none (sub_none (sub_none sub_nil))))))))))))))⟩
end
end Z
end
section
set_option Elab.async false
set_option linter.all false
set_option maxRecDepth 100000
set_option maxHeartbeats 1000000
namespace Z
open PySem PySem.Spec PyProof.Rows L2 RZ
section
variable {X : Cx} {J : Jx} {B0 H0 : Hp} {Γ : Gam} {O : Own} {N : Sp3} {R : Rp} {rest : List Stmt} {e a b : Expr} {es : List Expr} {pos p : Pos} {P : D → Prop}
theorem EvA.weak {P P' : List D → Prop} (h : EvA X J Γ es P) (k : ∀ d, P d → P' d) : EvA X J Γ es P' := fun σ B H w f Q q => h σ B H w f Q fun ds vs B' H' p => q ds vs B' H' (k ds p)
theorem x_ixS {ns : List Int} {i n : Int} (ha : Ev X J Γ a (· = .scr ns)) (hb : Ev X J Γ b (· = .int i)) (e : atI ns i = some n) (hs : PlainIx b := by exact fun _ _ => rfl) : Ev X J Γ (.Subscript a b pos) (· = .int n) := fun σ B H w f Q q =>
  ofE (pe_ix ix_list wpE.pe wpE.pe hs) (two (ta := wpE X a) (tb := wpE X b) ha hb w f fun x y v u B' H' px py s dx dy => by
    subst px py
    obtain ⟨p1, rfl, h1⟩ := den_scr.mp dx
    refine ⟨p1, _, i, .int n, rfl, den_int.mp dy, s.w.s.seq h1, ?_, q _ _ B' H' rfl s (den_int.mpr rfl)⟩
    unfold atI at e ⊢
    rw [List.length_map]
    cases hx : ixN ns.length i with
    | none => rw [hx] at e; cases e
    | some j =>
      rw [hx] at e
      have e : ns[j]? = some n := e
      show (ns.map V.int)[j]? = _
      rw [List.getElem?_map, e]
      rfl)
theorem x_lenS {ns : List Int} (hm : X.mg "len" = none) (ha : Ev X J Γ e (· = .scr ns)) (hg : Gl X "len" := by rfl) (he : starEach [e] X.env = (false, eval e X.env) :: starEach [] X.env := by rfl) (hpl : (backTo pos (starEach [] X.env)).any (·.1) = false := by rfl) : Ev X J Γ (.Call (.Name "len" p) [e] [] pos) (· = .int ns.length) :=
  x_blt call_len_seq hm (by decide +kernel) (a_cons ha a_nil he) (fun _ e => by subst e; exact c_lenS rfl) hg (by decide) (by decide) he hpl
theorem x_min2 {i j : Int} (hm : X.mg "min" = none) (ha : Ev X J Γ a (· = .int i)) (hb : Ev X J Γ b (· = .int j)) (hc : X.calm = true := by rfl) (hg : Gl X "min" := by rfl) (he : starEach [a, b] X.env = (false, eval a X.env) :: starEach [b] X.env := by rfl) (he2 : starEach [b] X.env = (false, eval b X.env) :: starEach [] X.env := by rfl) (hpl : (backTo pos (starEach [b] X.env)).any (·.1) = false := by rfl) : Ev X J Γ (.Call (.Name "min" p) [a, b] [] pos) (· = .int (if j < i then j else i)) :=
  x_blt (call_min2 hc) hm (by decide +kernel) (a_cons ha (a_cons hb a_nil he2) he) (fun _ e => by
    subst e
    intro B H vs w h Q q
    obtain ⟨v, v', rfl, h1, h2⟩ := dens2 h
    rw [den_int.mp h1, den_int.mp h2]
    exact ⟨i, j, rfl, q _ _ B H rfl (.refl w) (den_int.mpr rfl)⟩) hg (by decide) (by decide) he hpl
theorem x_max2 {i j : Int} (hm : X.mg "max" = none) (ha : Ev X J Γ a (· = .int i)) (hb : Ev X J Γ b (· = .int j)) (hc : X.calm = true := by rfl) (hg : Gl X "max" := by rfl) (he : starEach [a, b] X.env = (false, eval a X.env) :: starEach [b] X.env := by rfl) (he2 : starEach [b] X.env = (false, eval b X.env) :: starEach [] X.env := by rfl) (hpl : (backTo pos (starEach [b] X.env)).any (·.1) = false := by rfl) : Ev X J Γ (.Call (.Name "max" p) [a, b] [] pos) (· = .int (if j > i then j else i)) :=
  x_blt (call_max2 hc) hm (by decide +kernel) (a_cons ha (a_cons hb a_nil he2) he) (fun _ e => by
    subst e
    intro B H vs w h Q q
    obtain ⟨v, v', rfl, h1, h2⟩ := dens2 h
    rw [den_int.mp h1, den_int.mp h2]
    exact ⟨i, j, rfl, q _ _ B H rfl (.refl w) (den_int.mpr rfl)⟩) hg (by decide) (by decide) he hpl
/-- the answer is a new list, not known to the view -/
def RetO (K : PySem.W.Frag) (J : Jx) (B0 H0 : Hp) (P : List D → Prop) : Rp := fun v B' H' => ∃ (ds : List D) (q : Addr) (vs : List V), v = .ref q ∧ P ds ∧ Stp J B0 H0 B' H' ∧ H0 q = none ∧ B' q = none ∧ ¬ J.has q ∧ H' q = some (.lst vs) ∧ Dens K J ds B' vs
theorem hb_retO {PL : List D → Prop} (h : EvO X J Γ e PL) : HB X (.Return (some e) pos :: rest) (SX X J B0 H0 Γ O) N (RetO X.K J B0 H0 PL) := fun σ B H s E _ r =>
  ofSs (pss_cons (ps_ret wpE.pe) pss_never) (h σ B H s.w s.fit _ fun ds q vs B1 H1 p t h0 hb hj hv hd => r _ B1 H1 t.b ⟨ds, q, vs, rfl, p, (s.step t).st, s.st.back2 h0, hb, hj, hv, hd⟩)
end
section
variable {P : Program} {w : World} {K : PySem.W.Frag} {mg : Str → Option Value} {base : Heap}
def JarD (ds : List D) : Prop := ∃ a b c : Int, ds = [.int a, .int b, .int c] ∧ 0 ≤ a
def spJar (K : PySem.W.Frag) : Sp := fun vs H Q _ => ∃ (J : Jx) (B : Hp) (ns : List Int) (t : Nat), W J B H ∧ Dens K J [.scr ns, .int (t : Nat)] B vs ∧ t < 100 ∧ ∀ v B' H', RetO K J B H JarD v B' H' → Q v H'
theorem cut5 (ns : List Int) : cutD (ns.map D.int) none (some 5) = (ns.take 5).map D.int := by
  by_cases h : 5 ≤ ns.length
  · exact cut_to (i := 5) h
  · unfold cutD
    rw [HT.sIx_none, show (some (5 : Int)) = some ((5 : Nat) : Int) from rfl, HT.sIx_nat, List.drop_zero, Nat.sub_zero, List.length_map, List.take_of_length_le (by rw [List.length_map]; omega), List.take_of_length_le (by omega)]
theorem ok_Ljar (T : Fac K mg) : Ok P w K mg base "_law_jar" 2 ["_law_cells", "_law_turn"] (spJar K) := by
  obtain ⟨fd, F, bd⟩ := f_Ljar (K := K) T
  refine ⟨⟨fd, ?_, bd⟩, F.kp, g_Ljar T⟩
  refine F.ok c_Ljar (fun vs H Q E h => ?_) (fun cdv A outer s H vs Q E hr h => ?_)
  · obtain ⟨J, B, ns, t, _, hd, _⟩ := h
    rw [hd.length]
    rfl
  obtain ⟨J, B, ns, t, hw, hd, ht, q⟩ := h
  refine ⟨_, wpSs.pss, ?_⟩
  have main : HB (bx P w K mg base n_Ljar "_law_jar" s_Ljar (He.ga K "_law_jar") cdv A outer s H E) (defBody s_Ljar) (S K J B H [some (.scr ns), some (.int (t : Nat)), none, none, none] []) (fun _ _ _ => False) (RetO K J B H JarD) := by
    refine hb_asg 2 (O' := []) (P := fun d => ∃ n : Int, d = .int n) (x_if (PT := fun c => c = decide ((t : Int) < (ns.length : Nat))) (t_lt (x_var 1) (x_lenS (b_len T) (x_var 0))) (fun hc => ?_) (fun hc => Ev.weak (x_add (x_mulS x_int (x_var 1) (.inl (by decide))) x_int) fun d e => ⟨_, e⟩)) ?_ (fun _ h => by cases h) c_Ljar.nd
    · have hlt : (t : Int) < (ns.length : Nat) := of_decide_eq_true hc.symm
      have hlt : t < ns.length := by omega
      exact Ev.weak (x_ixS (x_var 0) (x_var 1) (n := ns[t]) (by rw [atI_nat, List.getElem?_eq_getElem hlt])) fun d e => ⟨_, e⟩
    rintro _ ⟨n, rfl⟩
    refine hb_set 3 (x_add x_int (x_mulS x_int (x_var 1) (.inl (by decide)))) ?_ c_Ljar.nd
    refine hb_forX (α := Int) (xs := ns.take 5 ++ [n]) [4] D.int (fun m Γ => Γ.set 4 (some (.int m))) (fun _ _ => True) (fun _ m => [some (.scr ns), some (.int (t : Nat)), some (.int n), some (.int m), none]) (fun _ _ => []) _ (i_list (EvO.lst (EvO.is (o_cat (xs := (ns.take 5).map D.int) (ys := [D.int n]) (EvO.lst (EvO.is (o_slS (x_var 0) ep_none (ep_some (i := 5) x_int)) (cut5 ns))) (EvO.lst (o_lst (a_cons (x_var 2) a_nil))) (by rw [List.length_map, List.length_take]; simp; omega)) (by rw [List.map_append]; rfl)))) trivial (fun _ _ _ s => s) (fun m _ => tg_name 4 c_Ljar.nd) (fun _ _ q h => by cases h) (fun i m y _ _ => ?_) (fun y _ => ?_) PassesOwn.never
    · exact hb_set 3 (x_mod (x_intI (b_int T) (x_add (x_mulS (x_var 3) x_int (.inr (by decide))) (x_var 4))) x_int (by decide)) (hb_nil fun σ B' H' s' => ⟨_, trivial, s'.sub (sub_same (sub_same (sub_same (sub_same (sub_none sub_nil)))))⟩) c_Ljar.nd
    · refine hb_retO (o_lstP (PS := JarD) (a_consP (PA := fun d => ∃ a : Int, d = .int a ∧ 0 ≤ a) (PS := fun ds => ∃ b c : Int, ds = [.int b, .int c]) (x_if (PT := fun _ => True) (t_or (PA := fun _ => True) (EvT.weak (t_lt (x_var 2) x_int) fun _ _ => trivial) (fun _ => EvT.weak (t_ge (x_var 2) (x_pow x_int x_int (by unfold CPow; decide))) fun _ _ => trivial) (fun _ => trivial)) (fun _ => Ev.weak (x_abs (b_abs T) (x_var 2)) fun d e => ⟨_, e, by split <;> omega⟩) (fun _ => Ev.weak x_int fun d e => ⟨0, e, by decide⟩)) (EvA.weak (a_cons (x_var 3) (a_cons x_int a_nil)) fun ds e => ⟨_, _, e⟩) (fun d ds ⟨a, e, h⟩ ⟨b, c, e2⟩ => ⟨a, b, c, by rw [e, e2], h⟩)) (fun ds h => ⟨?_, h⟩))
      obtain ⟨a, b, c, rfl, _⟩ := h
      show 3 ≤ 100000
      decide
  refine main _ B H (S.start (N := n_Ljar) hw hd) _ (fun _ _ _ _ z => z.elim) fun v B' H' _ hr => q v B' H' hr
end
end Z
end
section
set_option Elab.async false
set_option linter.all false
set_option maxRecDepth 100000
set_option maxHeartbeats 1000000
namespace Z
open PySem PySem.Spec PyProof.Rows L2 RZ
/-- no jar, no table yet -/
abbrev J0 : Jx := ⟨none, none⟩
section
variable {X : Cx} {Γ : Gam} {a b : Expr} {pos p pos2 p2 : Pos}
/-- _law_right(_law_jar(cells, turn)): the new jar stays outside the view -/
theorem x_rj {x y : Str} {ns : List Int} {t k : Nat} (T : Fac X.K X.mg) (hr : Room k X.A) (ha : Ev X J0 Γ a (· = .scr ns)) (hb : Ev X J0 Γ b (· = .int (t : Nat))) (ht : t < 100) (hk : 13 ≤ k) (hx : x = "_law_right" := by rfl) (hy : y = "_law_jar" := by rfl)
    (hg : Gl X x := by rfl) (hg2 : Gl X y := by rfl) (he : starEach [.Call (.Name y p2) [a, b] [] pos2] X.env = (false, eval (.Call (.Name y p2) [a, b] [] pos2) X.env) :: starEach [] X.env := by rfl) (he1 : starEach [a, b] X.env = (false, eval a X.env) :: starEach [b] X.env := by rfl) (he2 : starEach [b] X.env = (false, eval b X.env) :: starEach [] X.env := by rfl)
    (hpl : (backTo pos (starEach [] X.env)).any (·.1) = false := by rfl) (hpl2 : (backTo pos2 (starEach [b] X.env)).any (·.1) = false := by rfl) :
    Ev X J0 Γ (.Call (.Name x p) [.Call (.Name y p2) [a, b] [] pos2] [] pos) (· = .bl true) := fun σ B H w f Q qq => by
  subst hx hy
  obtain ⟨fd, F, bd⟩ := (ok_Lright (P := X.prog) (w := X.w) (base := X.base) T).f
  obtain ⟨fd2, F2, bd2⟩ := (ok_Ljar (P := X.prog) (w := X.w) (base := X.base) T).f
  have o1 := ok_Lright (P := X.prog) (w := X.w) (base := X.base) T
  have o2 := ok_Ljar (P := X.prog) (w := X.w) (base := X.base) T
  refine ofE (pe_call (E := fun _ _ _ => False) F (hr.mono hk) hg o1.mg o1.kp bd .nil pass0 (pa_cons wpE.pe pa_nil he) (by decide) he hpl) ?_
  refine ofE (pe_call (E := fun _ _ _ => False) F2 (hr.mono (Nat.le_trans (by decide) hk)) hg2 o2.mg o2.kp bd2 .nil pass0 wpA.pa (by decide) he1 hpl2) ?_
  refine a_cons ha (a_cons hb a_nil he2) he1 σ B H w f _ fun ds vs B1 H1 ed s1 dd => ?_
  subst ed
  rw [List.append_nil]
  refine ⟨J0, B1, ns, t, s1.w, dd, ht, fun v B2 H2 hv => ?_⟩
  obtain ⟨ds, j, us, rfl, ⟨n0, n1, n2, rfl, h0⟩, s2, hj1, hjB, hjJ, hjH, hjd⟩ := hv
  have eus : us = [.int n0, .int n1, .int n2] := Dens.ints (ns := [n0, n1, n2]) hjd
  subst eus
  have s12 := s1.trans s2
  show Pm X.K (fun _ : Unit => [D.jar]) (fun _ => True) (fun _ d => d = .bl true) ([.ref j] ++ []) H2 Q (fun _ _ _ => False)
  rw [List.append_nil]
  refine ⟨⟨some j, none⟩, B2, (), ⟨s12.w.s, fun j' e => ?_, fun t e => by cases e⟩, dens_cons.mpr ⟨_, _, rfl, den_jar.mpr ⟨j, rfl, rfl⟩, dens_nil.mpr rfl⟩, trivial, fun d v B3 H3 ed s3 hd => ?_⟩
  · have e : j = j' := Option.some.inj e
    subst e
    exact ⟨hjB, n0, n1, n2, h0, hjH⟩
  · subst ed
    have hjH0 : H j = none := s1.back2 hj1
    refine qq (.bl true) v B3 H3 rfl ⟨s12.b.trans s3.b, ⟨s3.w.s, fun j' e => (by cases e), fun t e => (by cases e)⟩, fun x hx h1 h2 => ?_⟩ (den_bl.mpr (den_bl.mp hd))
    obtain ⟨e1, e2⟩ := s12.own x hx h1 h2
    have ne : x ≠ j := fun z => h2 (by rw [z]; exact hjH0)
    obtain ⟨e3, e4⟩ := s3.own x (fun z => ne (Option.some.inj z).symm) e1 (by rw [e2]; exact h2)
    exact ⟨e3, e4.trans e2⟩
end
def spLaw (K : PySem.W.Frag) : Sp := fun vs H Q _ => ∃ (B : Hp) (ns : List Int), W J0 B H ∧ Dens K J0 [.scr ns] B vs ∧ ∀ H', Q (.bl true) H'
section
variable {P : Program} {w : World} {K : PySem.W.Frag} {mg : Str → Option Value} {base : Heap}
theorem law_fn (T : Fac K mg) {fd : FuncData} (F : Fun K "law" "law" s_law (He.ga K "law") fd) : FnOk P w K mg base CX0 14 (He.ga K "law") fd ["_law_cells"] (spLaw K) := by
  refine F.ok c_law (fun vs H Q E h => ?_) (fun cdv A outer s H vs Q E hr h => ?_)
  · obtain ⟨B, ns, _, hd, _⟩ := h
    rw [hd.length]
    rfl
  obtain ⟨B, ns, hw, hd, q⟩ := h
  refine ⟨_, wpSs.pss, ?_⟩
  have main : HB (bx P w K mg base n_law "law" s_law (He.ga K "law") cdv A outer s H E) (defBody s_law) (S K J0 B H [some (.scr ns), none] []) (fun _ _ _ => False) (Ret K J0 B H (fun d => d = .bl true)) := by
    obtain ⟨m, hm, hm3⟩ : ∃ m : Nat, (if (if (3 : Int) < ((ns.length : Nat) : Int) then 3 else ((ns.length : Nat) : Int)) > (2 : Int) then (if (3 : Int) < ((ns.length : Nat) : Int) then (3 : Int) else ((ns.length : Nat) : Int)) else (2 : Int)) = (m : Int) ∧ m ≤ 3 := by
      by_cases h1 : (3 : Int) < ((ns.length : Nat) : Int)
      · exact ⟨3, by simp only [if_pos h1]; rfl, by decide⟩
      · by_cases h2 : ((ns.length : Nat) : Int) > 2
        · exact ⟨ns.length, by simp only [if_neg h1]; rw [if_pos h2], by omega⟩
        · exact ⟨2, by simp only [if_neg h1]; rw [if_neg h2]; rfl, by decide⟩
    refine hb_ret (P := (· = .bl true)) (Ev.is (x_all (bs := (List.range m).map fun _ => true) (b_all T) (EvO.lst (EvO.is (o_lc [("_law_turn", 1)] [1] (xs := List.range m) (fun (i : Nat) => D.int (i : Int)) (fun i Γ => Γ.set 1 (some (.int (i : Nat)))) (fun _ => D.bl true) (i_range1 (n := (m : Nat)) (Ev.is (x_max2 (b_max T) x_int (x_min2 (b_min T) (x_lenS (b_len T) (x_var 0)) x_int)) (congrArg D.int hm)) (by omega) (b_range T)) c_law.nd (blk n_law (defScope s_law)) (by rw [List.length_range]; omega) ?_) (by rw [List.map_map]; rfl)))) ?_) fun _ e => e
    · rintro i hi Y ⟨_, _, _, _, _, rfl⟩
      have hi := List.mem_range.mp hi
      exact ⟨tg_name 1 c_law.nd, x_rj (t := i) T hr (x_var 0) (x_var 1) (by omega) (by decide)⟩
    · refine congrArg D.bl ?_
      rw [List.all_eq_true]
      intro b hb
      obtain ⟨_, _, rfl⟩ := List.mem_map.mp hb
      rfl
  refine main _ B H (S.start (N := n_law) hw hd) _ (fun _ _ _ _ z => z.elim) fun v B' H' _ hr => ?_
  obtain ⟨_, d, ed, hdv⟩ := hr
  subst ed
  rw [den_bl.mp hdv]
  exact q H'
end
end Z
end
section
set_option Elab.async false
set_option linter.all false
set_option maxRecDepth 100000
set_option maxHeartbeats 0
namespace Z
open PySem PySem.Spec PyProof.Rows L2
theorem law_facts {P : Program} {w : World} {K : PySem.W.Frag} {h : Heap} {mg : Str → Option Value} {f : Addr} (X : K.In h) (G : h.Ns mainGlobals mg) (hfa : mg ("law" : Str) = some (.ref f)) (c : ZH.SaysZ ZH.fa ZH.fn K) :
    ∃ fd : FuncData, (∀ (s : Shared) (v : Value), BindsTo s fd ⟨[v], []⟩ [("_law_cells", v)]) ∧ ∀ base : Heap, K.In base → base.Ns mainGlobals mg → FnOk P w K mg base CX0 14 f fd ["_law_cells"] (spLaw K) := by
  have T : Fac K mg := ⟨c, fun x h => He.glo_ok X G h, fun x h => He.free_ok X G h, fun x i h => He.int_ok X G h⟩
  obtain ⟨fd, F⟩ := T.c.def_ 79
  have e := hfa.symm.trans (g_law T)
  cases e
  refine ⟨fd, fun s v => ?_, fun base _ _ => law_fn T F⟩
  obtain ⟨oc, od, kV, doc, pm, an, cdv, ct, osl, rfl, lk, hcd⟩ := F.ex
  exact .of_eq rfl
end Z
open PySem PySem.W PySem.Calls PyProof.Rows
theorem PySem.Challenge.cw_softchances_k70_whole_one_quote_may_be_w_holds : PySem.Challenge.rw_softchances_k70_whole_one_quote_may_be_w.Holds := by
  w_on; o_law
  refine HandSHeadRun.head_any (r := OpenLaw.row PySem.Challenge.rw_softchances_k70_whole_one_quote_may_be_w) (q := view (OpenLaw.row PySem.Challenge.rw_softchances_k70_whole_one_quote_may_be_w).prog [103]) (H := ZH.hk) (ob := ZH.ob) (M := 6400) (loose := ZH.loose) (d := HandSHeadRun.topDef (OpenLaw.row PySem.Challenge.rw_softchances_k70_whole_one_quote_may_be_w).prog 103) (kwd := []) ZH.ob_eq
    (by kernel_rfl) (fun s => by kernel_rfl) ZH.run (by kernel_rfl) (by kernel_rfl) (by kernel_rfl) (by rfl) (by first | assumption | decide +kernel) (by decide +kernel) ⟨rfl, rfl, rfl, rfl, rfl, by decide +kernel⟩ ?hw ?hc
  case hw => w_witness2
  case hc =>
    refine L2.walk_ofE (l := PySem.Challenge.rw_softchances_k70_whole_one_quote_may_be_w) (n := 63) (k := 14) (x := "_law_cells") (CX := L2.CX0) rfl (by decide) (by kernel_rfl) ⟨rfl, by decide, by decide⟩ ?F (fun _ _ _ _ z => z)
    intro w mg fa h Y G hmg0
    obtain ⟨K, KX, c⟩ := Y
    have hmg : mg ("law" : PySem.Str) = some (.ref fa) := by
      have e : (HandSHeadRun.topDef (OpenLaw.row PySem.Challenge.rw_softchances_k70_whole_one_quote_may_be_w).prog 103).name = ("law" : PySem.Str) := by kernel_rfl
      rw [← e]
      exact hmg0
    obtain ⟨fd, hb, hF⟩ := Z.law_facts (P := (PySem.Challenge.rw_softchances_k70_whole_one_quote_may_be_w).prog) (w := w) KX G hmg c
    exact ⟨K, fd, Z.spLaw K, KX, hb, fun H a ns hl _ hS => ⟨H, ns, ⟨.refl _, fun j e => (by cases e), fun t e => (by cases e)⟩, Z.dens_cons.mpr ⟨_, _, rfl, Z.den_scr.mpr ⟨a, rfl, hS⟩, Z.dens_nil.mpr rfl⟩, fun _ => rfl⟩, hF⟩
end
