import PyProof.Rows.All
import Wide.All
import OpenK.AllK
import Wide.FinOn
import HandS.ForMost
import HandS.Wide
import HandS.Flow
import HandS.Style
import HandS.Deep
import HandS.SortInts
import HandS.SetKeys
import HandS.RaiseMore
import HandS.TupLe
import HandS.SortOrd
import HandS.SortRule
import HandS.IsInst
import HandS.Codes
import HandS.Conv
import HandS.TupAny
import PyProof.InstEq
import KE.GoesMore
import HandS.Words
import KE.BitLaws
import PySem.Challenge.RW_craterbeat_k37_matrices_lead_forms
set_option Elab.async false
set_option linter.all false
set_option maxRecDepth 100000
/-! Fm: forms of negative discriminant, reduced forms (plain Lean). -/
namespace Pi.Fm
def la (a b c g i : Int) : Int := a * g * g + b * g * i + c * i * i
def lb (a b c g h i j : Int) : Int := 2 * a * g * h + b * (g * j + h * i) + 2 * c * i * j
/-- reduced -/
structure Red (a b c : Int) : Prop where
  lo : -a < b
  hi : b ≤ a
  ac : a ≤ c
  eq : a = c → 0 ≤ b
theorem disc_led {a b c g h i j : Int} (hd : g * j - h * i = 1) : lb a b c g h i j * lb a b c g h i j - 4 * la a b c g i * la a b c h j = b * b - 4 * a * c := by
  have e : lb a b c g h i j * lb a b c g h i j - 4 * la a b c g i * la a b c h j = (b * b - 4 * a * c) * ((g * j - h * i) * (g * j - h * i)) := by
    unfold lb la; grind
  rw [e, hd]; grind
theorem sq_nonneg (x : Int) : 0 ≤ x * x := by
  rcases Int.le_total 0 x with h | h
  · exact Int.mul_nonneg h h
  · have := Int.mul_nonneg (a := -x) (b := -x) (by omega) (by omega)
    grind
theorem sq_pos {x : Int} (h : x ≠ 0) : 1 ≤ x * x := by
  rcases Int.lt_or_gt_of_ne h with h | h
  · have := Int.mul_pos (a := -x) (b := -x) (by omega) (by omega)
    have e : -x * -x = x * x := by grind
    omega
  · have := Int.mul_pos h h
    omega
/-- a reduced form is at least c off the first axis -/
theorem low_c {a b c x y : Int} (h1 : -a ≤ b) (h2 : b ≤ a) (h3 : a ≤ c) (hy : y ≠ 0) : c ≤ la a b c x y := by
  have ha : 0 ≤ a := by omega
  have hy1 := sq_pos hy
  have p1 := Int.mul_nonneg (show (0 : Int) ≤ c - a by omega) (show (0 : Int) ≤ y * y - 1 by omega)
  have q1 := sq_nonneg (x - y)
  have q2 := sq_nonneg (x + y)
  have q3 := sq_nonneg x
  unfold la
  rcases Int.le_total 0 (x * y) with hw | hw
  · have p2 := Int.mul_nonneg (show (0 : Int) ≤ b + a by omega) hw
    have p3 := Int.mul_nonneg ha (show (0 : Int) ≤ x * x + y * y - x * y - 1 by
      have : (x - y) * (x - y) = x * x - 2 * (x * y) + y * y := by grind
      omega)
    grind
  · have p2 := Int.mul_nonneg (show (0 : Int) ≤ a - b by omega) (show (0 : Int) ≤ -(x * y) by omega)
    have p3 := Int.mul_nonneg ha (show (0 : Int) ≤ x * x + y * y + x * y - 1 by
      have : (x + y) * (x + y) = x * x + 2 * (x * y) + y * y := by grind
      omega)
    grind
theorem low_a {a b c x y : Int} (h1 : -a ≤ b) (h2 : b ≤ a) (h3 : a ≤ c) (hx : x ≠ 0 ∨ y ≠ 0) : a ≤ la a b c x y := by
  by_cases hy : y = 0
  · subst hy
    have hx : x ≠ 0 := by omega
    have := sq_pos hx
    have p := Int.mul_nonneg (show (0 : Int) ≤ a by omega) (show (0 : Int) ≤ x * x - 1 by omega)
    unfold la; grind
  · exact Int.le_trans h3 (low_c h1 h2 h3 hy)
/-- back by the inverse matrix -/
theorem led_back {a b c g h i j : Int} (hd : g * j - h * i = 1) : la (la a b c g i) (lb a b c g h i j) (la a b c h j) j (-i) = a ∧ lb (la a b c g i) (lb a b c g h i j) (la a b c h j) j (-h) (-i) g = b ∧ la (la a b c g i) (lb a b c g h i j) (la a b c h j) (-h) g = c := by
  have e1 : la (la a b c g i) (lb a b c g h i j) (la a b c h j) j (-i) = a * ((g * j - h * i) * (g * j - h * i)) := by unfold la lb; grind
  have e2 : lb (la a b c g i) (lb a b c g h i j) (la a b c h j) j (-h) (-i) g = b * ((g * j - h * i) * (g * j - h * i)) := by unfold la lb; grind
  have e3 : la (la a b c g i) (lb a b c g h i j) (la a b c h j) (-h) g = c * ((g * j - h * i) * (g * j - h * i)) := by unfold la lb; grind
  rw [e1, e2, e3, hd]
  exact ⟨by grind, by grind, by grind⟩
theorem mod_eq {a b b' k : Int} (ha : 0 < a) (h1 : -a < b) (h2 : b ≤ a) (h3 : -a < b') (h4 : b' ≤ a) (e : b' = b + 2 * a * k) : b' = b := by
  have : k = 0 := by
    rcases Int.lt_trichotomy k 0 with h | h | h
    · have := Int.mul_le_mul_of_nonneg_left (show k ≤ -1 by omega) (show (0 : Int) ≤ 2 * a by omega)
      grind
    · exact h
    · have := Int.mul_le_mul_of_nonneg_left (show (1 : Int) ≤ k by omega) (show (0 : Int) ≤ 2 * a by omega)
      grind
  subst this; grind
theorem red_uniq {a b c g h i j : Int} (ha : 0 < a) (ha' : 0 < la a b c g i) (h1 : Red a b c) (h2 : Red (la a b c g i) (lb a b c g h i j) (la a b c h j)) (hd : g * j - h * i = 1) :
    la a b c g i = a ∧ lb a b c g h i j = b ∧ la a b c h j = c := by
  have hgi : g ≠ 0 ∨ i ≠ 0 := by
    by_cases hg : g = 0
    · right; intro hi; subst hg hi; simp at hd
    · exact .inl hg
  have hji : j ≠ 0 ∨ -i ≠ 0 := by
    by_cases hg : j = 0
    · right; intro hi; subst hg; have : i = 0 := by omega
      subst this; simp at hd
    · exact .inl hg
  obtain ⟨b1, b2, b3⟩ := led_back (a := a) (b := b) (c := c) hd
  have l1 := low_a (by have := h1.lo; omega) h1.hi h1.ac hgi
  have l2 := low_a (by have := h2.lo; omega) h2.hi h2.ac hji
  rw [b1] at l2
  have hD := disc_led (a := a) (b := b) (c := c) hd
  have ea : la a b c g i = a := by omega
  by_cases hi : i = 0
  · subst hi
    have hgj : g * j = 1 := by simpa using hd
    have eb : lb a b c g h 0 j = b := by
      refine mod_eq (k := g * h) ha h1.lo h1.hi (by have := h2.lo; omega) (by have := h2.hi; omega) ?_
      unfold lb
      have : b * (g * j + h * 0) = b := by rw [hgj]; grind
      rw [this]; grind
    refine ⟨ea, eb, ?_⟩
    rw [ea, eb] at hD
    have : 4 * a * (la a b c h j - c) = 0 := by grind
    have h4 : (4 * a) ≠ 0 := by omega
    rcases Int.mul_eq_zero.mp this with h | h
    · exact absurd h h4
    · omega
  · have l3 := low_c (x := g) (by have := h1.lo; omega) h1.hi h1.ac hi
    have l4 := low_c (x := j) (y := -i) (by have := h2.lo; omega) h2.hi h2.ac (by omega)
    rw [b1] at l4
    have hac := h1.ac
    have hac' := h2.ac
    have ec : c = a := by omega
    have ec' : la a b c h j = a := by omega
    have nb := h1.eq ec.symm
    have nb' := h2.eq (by omega)
    refine ⟨ea, ?_, by omega⟩
    rw [ea, ec', ec] at hD
    rw [ec] at nb'
    rw [ec]
    generalize lb a b a g h i j = b' at *
    have : (b' - b) * (b' + b) = 0 := by grind
    rcases Int.mul_eq_zero.mp this with h | h
    · omega
    · omega
/-! ### the steps of the reduction -/
def sh (a b : Int) : Int := (a - b) / (2 * a)
theorem sh_rng {a b : Int} (ha : 0 < a) : -a < b + 2 * a * sh a b ∧ b + 2 * a * sh a b ≤ a := by
  unfold sh
  have h1 := Int.mul_ediv_add_emod (a - b) (2 * a)
  have h2 := Int.emod_nonneg (a - b) (show (2 * a) ≠ 0 by omega)
  have h3 := Int.emod_lt_of_pos (a - b) (show 0 < 2 * a by omega)
  omega
theorem sh_zero {a b : Int} (ha : 0 < a) (h1 : -a < b) (h2 : b ≤ a) : sh a b = 0 := by
  unfold sh
  exact Int.ediv_eq_zero_of_lt (by omega) (by omega)
theorem sh_ne {a b : Int} (ha : 0 < a) (h : sh a b = 0) : -a < b ∧ b ≤ a := by
  have := sh_rng (b := b) ha
  rw [h] at this
  omega
/-- a shift makes |b| no greater -/
theorem sh_abs {a b : Int} (ha : 0 < a) (h : sh a b ≠ 0) : (b + 2 * a * sh a b).natAbs ≤ b.natAbs := by
  have h1 := sh_rng (b := b) ha
  have h2 : ¬ (-a < b ∧ b ≤ a) := fun h' => h (sh_zero ha h'.1 h'.2)
  omega
theorem sq_le {x y : Int} (h : x.natAbs ≤ y.natAbs) : x * x ≤ y * y := by
  have := Nat.mul_le_mul h h
  rw [← Int.natAbs_mul, ← Int.natAbs_mul] at this
  have a := sq_nonneg x
  have b := sq_nonneg y
  omega
/-- size of a matrix' column -/
theorem col_sz {a b c g i B : Int} (ha : 0 < a) (hc : 0 < c) (hD : b * b - 4 * a * c ≤ -1) (h1 : a ≤ B) (h2 : c ≤ B) (h3 : la a b c g i ≤ B) (h0 : 0 ≤ la a b c g i) : g * g ≤ 4 * B * B ∧ i * i ≤ 4 * B * B := by
  have e1 : 4 * a * la a b c g i = (2 * a * g + b * i) * (2 * a * g + b * i) + (4 * a * c - b * b) * (i * i) := by unfold la; grind
  have e2 : 4 * c * la a b c g i = (2 * c * i + b * g) * (2 * c * i + b * g) + (4 * a * c - b * b) * (g * g) := by unfold la; grind
  have q1 := sq_nonneg (2 * a * g + b * i)
  have q2 := sq_nonneg (2 * c * i + b * g)
  have q3 := Int.mul_nonneg (show (0 : Int) ≤ 4 * a * c - b * b - 1 by omega) (sq_nonneg i)
  have q4 := Int.mul_nonneg (show (0 : Int) ≤ 4 * a * c - b * b - 1 by omega) (sq_nonneg g)
  have r1 : a * la a b c g i ≤ B * B := Int.mul_le_mul h1 h3 h0 (by omega)
  have r2 : c * la a b c g i ≤ B * B := Int.mul_le_mul h2 h3 h0 (by omega)
  constructor <;> grind
/-! ### common divisors -/
def gc (a b c : Int) : Nat := Int.gcd (Int.gcd a b : Int) c
theorem gc_dvd (a b c : Int) : (gc a b c : Int) ∣ a ∧ (gc a b c : Int) ∣ b ∧ (gc a b c : Int) ∣ c := by
  unfold gc
  have h1 := Int.gcd_dvd_left (Int.gcd a b : Int) c
  exact ⟨Int.dvd_trans h1 (Int.gcd_dvd_left a b), Int.dvd_trans h1 (Int.gcd_dvd_right a b), Int.gcd_dvd_right _ c⟩
theorem dvd_gc {a b c : Int} {d : Nat} (h1 : (d : Int) ∣ a) (h2 : (d : Int) ∣ b) (h3 : (d : Int) ∣ c) : d ∣ gc a b c := by
  unfold gc
  have h : (d : Int) ∣ (Int.gcd a b : Int) := Int.ofNat_dvd.mpr (by
    rw [Int.gcd]; exact Nat.dvd_gcd (Int.ofNat_dvd_left.mp h1) (Int.ofNat_dvd_left.mp h2))
  rw [Int.gcd]; exact Nat.dvd_gcd (Int.ofNat_dvd_left.mp h) (Int.ofNat_dvd_left.mp h3)
theorem la_dvd {d a b c g i : Int} (h1 : d ∣ a) (h2 : d ∣ b) (h3 : d ∣ c) : d ∣ la a b c g i := by
  obtain ⟨x, rfl⟩ := h1
  obtain ⟨y, rfl⟩ := h2
  obtain ⟨z, rfl⟩ := h3
  exact ⟨la x y z g i, by unfold la; grind⟩
theorem lb_dvd {d a b c g h i j : Int} (h1 : d ∣ a) (h2 : d ∣ b) (h3 : d ∣ c) : d ∣ lb a b c g h i j := by
  obtain ⟨x, rfl⟩ := h1
  obtain ⟨y, rfl⟩ := h2
  obtain ⟨z, rfl⟩ := h3
  exact ⟨lb x y z g h i j, by unfold lb; grind⟩
theorem gc_led {a b c g h i j : Int} (hd : g * j - h * i = 1) (hg : gc a b c = 1) : gc (la a b c g i) (lb a b c g h i j) (la a b c h j) = 1 := by
  obtain ⟨h1, h2, h3⟩ := gc_dvd (la a b c g i) (lb a b c g h i j) (la a b c h j)
  obtain ⟨b1, b2, b3⟩ := led_back (a := a) (b := b) (c := c) hd
  have := dvd_gc (b1 ▸ la_dvd h1 h2 h3) (b2 ▸ lb_dvd h1 h2 h3) (b3 ▸ la_dvd h1 h2 h3)
  rw [hg] at this
  exact Nat.dvd_one.mp this
/-- positive definite -/
theorem la_pos {a b c g i : Int} (ha : 0 < a) (hD : b * b - 4 * a * c < 0) (h : g ≠ 0 ∨ i ≠ 0) : 0 < la a b c g i := by
  have e1 : 4 * a * la a b c g i = (2 * a * g + b * i) * (2 * a * g + b * i) + (4 * a * c - b * b) * (i * i) := by unfold la; grind
  have hp : 0 < 4 * a * la a b c g i := by
    rw [e1]
    have q1 := sq_nonneg (2 * a * g + b * i)
    by_cases hi : i = 0
    · subst hi
      have hg : g ≠ 0 := by omega
      have := sq_pos (x := 2 * a * g) (by
        have := Int.mul_ne_zero (show 2 * a ≠ 0 by omega) hg
        exact this)
      have e2 : 2 * a * g + b * 0 = 2 * a * g := by omega
      rw [e2]
      simp
      omega
    · have := Int.mul_pos (show (0 : Int) < 4 * a * c - b * b by omega) (show (0 : Int) < i * i by have := sq_pos hi; omega)
      omega
  rcases Int.lt_trichotomy (la a b c g i) 0 with h0 | h0 | h0
  · have := Int.mul_pos (show (0 : Int) < 4 * a by omega) (show (0 : Int) < -la a b c g i by omega)
    have e3 : 4 * a * -la a b c g i = -(4 * a * la a b c g i) := by grind
    omega
  · rw [h0] at hp; simp at hp
  · exact h0
theorem det_col {g h i j : Int} (hd : g * j - h * i = 1) : (g ≠ 0 ∨ i ≠ 0) ∧ (h ≠ 0 ∨ j ≠ 0) := by
  constructor
  · by_cases hg : g = 0
    · right; intro hi; subst hg hi; simp at hd
    · exact .inl hg
  · by_cases hg : h = 0
    · right; intro hi; subst hg hi; simp at hd
    · exact .inl hg
/-- a form -/
structure Fo (a b c : Int) : Prop where
  pos : 0 < a
  lo : -20000 ≤ b * b - 4 * a * c
  hi : b * b - 4 * a * c ≤ -3
  pr : gc a b c = 1
theorem Fo.led {a b c g h i j : Int} (f : Fo a b c) (hd : g * j - h * i = 1) : Fo (la a b c g i) (lb a b c g h i j) (la a b c h j) := by
  have e := disc_led (a := a) (b := b) (c := c) hd
  have h1 := f.lo
  have h2 := f.hi
  exact ⟨la_pos f.pos (by omega) (det_col hd).1, by omega, by omega, gc_led hd f.pr⟩
theorem Fo.c_pos {a b c : Int} (f : Fo a b c) : 0 < c := by
  have h1 := f.pos
  have h2 := f.hi
  have h3 := sq_nonneg b
  rcases Int.lt_or_le 0 c with h | h
  · exact h
  · have := Int.mul_nonneg (show (0 : Int) ≤ 4 * a by omega) (show (0 : Int) ≤ -c by omega)
    have e : 4 * a * -c = -(4 * a * c) := by grind
    omega
theorem disc_mod (a b c : Int) : (b * b - 4 * a * c) % 4 = 0 ∨ (b * b - 4 * a * c) % 4 = 1 := by
  have h : (b * b) % 4 = 0 ∨ (b * b) % 4 = 1 := by
    have h4 : b % 4 = 0 ∨ b % 4 = 1 ∨ b % 4 = 2 ∨ b % 4 = 3 := by omega
    rw [Int.mul_emod]
    rcases h4 with h | h | h | h <;> rw [h] <;> decide
  have e : 4 * a * c = 4 * (a * c) := by grind
  omega
/-! ### products of matrices -/
theorem la_mul {a b c g h i j k m : Int} : la (la a b c g i) (lb a b c g h i j) (la a b c h j) k m = la a b c (g * k + h * m) (i * k + j * m) := by unfold la lb; grind
theorem lb_mul {a b c g h i j k m n o : Int} : lb (la a b c g i) (lb a b c g h i j) (la a b c h j) k m n o = lb a b c (g * k + h * n) (g * m + h * o) (i * k + j * n) (i * m + j * o) := by unfold la lb; grind
theorem det_mul {g h i j k m n o : Int} (h1 : g * j - h * i = 1) (h2 : k * o - m * n = 1) : (g * k + h * n) * (i * m + j * o) - (g * m + h * o) * (i * k + j * n) = 1 := by
  have e : (g * k + h * n) * (i * m + j * o) - (g * m + h * o) * (i * k + j * n) = (g * j - h * i) * (k * o - m * n) := by grind
  rw [e, h1, h2]; rfl
end Pi.Fm
namespace Pi.Fm
theorem la_10 {a b c : Int} : la a b c 1 0 = a := by unfold la; grind
theorem lb_sh {a b c s : Int} : lb a b c 1 s 0 1 = b + 2 * a * s := by unfold lb; grind
theorem la_01 {a b c : Int} : la a b c 0 1 = c := by unfold la; grind
theorem lb_sw {a b c : Int} : lb a b c 0 (-1) 1 0 = -b := by unfold lb; grind
theorem la_m0 {a b c : Int} : la a b c (-1) 0 = a := by unfold la; grind
/-- the measure of the reduction -/
def mu (a b c : Int) : Nat := 4 * a.toNat + (if sh a b ≠ 0 then 2 else if a = c ∧ b < 0 then 1 else 0)
theorem mu_le {a b c : Int} : mu a b c ≤ 4 * a.toNat + 2 := by
  unfold mu
  split
  · omega
  · split <;> omega
/-- bounds of the three numbers -/
structure Bd (B a b c : Int) : Prop where
  a : a ≤ B
  b1 : -B ≤ b
  b2 : b ≤ B
  c : c ≤ B
theorem shift_step {B a b c : Int} (ha : 0 < a) (hD : b * b - 4 * a * c < 0) (hb : Bd B a b c) (hs : sh a b ≠ 0) :
    Bd B a (b + 2 * a * sh a b) (la a b c (sh a b) 1) ∧ mu a (b + 2 * a * sh a b) (la a b c (sh a b) 1) < mu a b c := by
  have h1 := sh_abs ha hs
  have h2 := sq_le h1
  have h3 := sh_rng (b := b) ha
  have h4 : sh a (b + 2 * a * sh a b) = 0 := sh_zero ha h3.1 h3.2
  have e : (b + 2 * a * sh a b) * (b + 2 * a * sh a b) - 4 * a * la a b c (sh a b) 1 = b * b - 4 * a * c := by unfold la; grind
  have h5 : la a b c (sh a b) 1 ≤ c := by
    have : 0 ≤ 4 * a * (c - la a b c (sh a b) 1) := by
      have e2 : 4 * a * (c - la a b c (sh a b) 1) = 4 * a * c - 4 * a * la a b c (sh a b) 1 := by grind
      omega
    rcases Int.lt_or_le c (la a b c (sh a b) 1) with h | h
    · have := Int.mul_pos (show (0 : Int) < 4 * a by omega) (show 0 < la a b c (sh a b) 1 - c by omega)
      grind
    · exact h
  have hb1 := hb.a
  have hb2 := hb.b1
  have hb3 := hb.b2
  have hb4 := hb.c
  refine ⟨⟨hb1, by omega, by omega, by omega⟩, ?_⟩
  unfold mu
  rw [if_neg (by simpa using h4), if_pos hs]
  split <;> omega
theorem swap_step {a b c : Int} (hc : 0 < c) (h : c < a) : mu c (-b) a < mu a b c := by
  have h1 : mu c (-b) a ≤ 4 * c.toNat + 2 := mu_le
  have h2 : 4 * a.toNat ≤ mu a b c := by unfold mu; omega
  omega
theorem flip_step {a b : Int} (ha : 0 < a) (hs : sh a b = 0) (hb : b < 0) : mu a (-b) a < mu a b a := by
  have h1 := sh_ne ha hs
  have h2 : sh a (-b) = 0 := sh_zero ha (by omega) (by omega)
  unfold mu
  rw [if_neg (by simpa using h2), if_neg (by omega), if_neg (by simpa using hs), if_pos ⟨rfl, hb⟩]
  omega
theorem col_abs {B x : Int} (hB : 0 ≤ B) (h : x * x ≤ 4 * B * B) : x.natAbs ≤ 2 * B.natAbs := by
  rcases Nat.lt_or_ge (2 * B.natAbs) x.natAbs with h1 | h1
  · have h2 := Nat.mul_lt_mul'' h1 h1
    have e1 : (x.natAbs * x.natAbs : Nat) = (x * x).natAbs := (Int.natAbs_mul x x).symm
    have e2 : (2 * B.natAbs) * (2 * B.natAbs) = (4 * B * B).natAbs := by
      rw [Int.natAbs_mul, Int.natAbs_mul]
      show _ = 4 * B.natAbs * B.natAbs
      generalize B.natAbs = n
      grind
    have := sq_nonneg x
    have := Int.mul_nonneg (show (0 : Int) ≤ 4 * B by omega) hB
    omega
  · exact h1
end Pi.Fm
namespace Pi.Fm
/-- a reduced form of the discriminant D -/
structure CF (D a b c : Int) : Prop where
  pos : 0 < a
  red : Red a b c
  disc : b * b - 4 * a * c = D
  pr : gc a b c = 1
theorem gc_neg {a b c : Int} : gc a (-b) c = gc a b c := by unfold gc; rw [Int.gcd_neg]
theorem CF.ac {D a b c : Int} (f : CF D a b c) : b * b ≤ a * a ∧ a * a ≤ a * c ∧ 3 * (b * b) ≤ -D := by
  have h1 := f.red.lo
  have h2 := f.red.hi
  have h3 : b * b ≤ a * a := sq_le (by omega)
  have h4 := Int.mul_le_mul_of_nonneg_left f.red.ac (show 0 ≤ a by have := f.pos; omega)
  have h5 := f.disc
  have e : 4 * a * c = 4 * (a * c) := by grind
  refine ⟨h3, h4, by omega⟩
theorem CF.par {D a b c : Int} (f : CF D a b c) : b % 2 = D % 2 := by
  have h := f.disc
  have e : 4 * a * c = 4 * (a * c) := by grind
  have h2 : (b * b) % 2 = b % 2 := by
    rcases (show b % 2 = 0 ∨ b % 2 = 1 by omega) with h | h <;> rw [Int.mul_emod, h] <;> decide
  omega
/-- the form that b and a tell -/
theorem cf_of {D b a : Int} (hD : D % 4 = 0 ∨ D % 4 = 1) (hb : b % 2 = D % 2) (hb0 : 0 ≤ b) (ha : b ≤ a) (ha1 : 1 ≤ a) (hP : a * a ≤ (b * b - D) / 4) (hm : (b * b - D) / 4 % a = 0) (hg : gc a b ((b * b - D) / 4 / a) = 1) :
    CF D a b ((b * b - D) / 4 / a) ∧ (0 < b → b < a → a < (b * b - D) / 4 / a → CF D a (-b) ((b * b - D) / 4 / a)) := by
  have h4 : 4 * ((b * b - D) / 4) = b * b - D := by
    have h2 : (b * b) % 4 = b % 2 := by
      have h4 : b % 4 = 0 ∨ b % 4 = 1 ∨ b % 4 = 2 ∨ b % 4 = 3 := by omega
      rw [Int.mul_emod]
      rcases h4 with h | h | h | h <;> rw [h] <;> simp <;> omega
    omega
  generalize (b * b - D) / 4 = P at *
  have hc : a * (P / a) = P := by
    have := Int.mul_ediv_add_emod P a
    omega
  generalize P / a = c at *
  have hac : a ≤ c := by
    rcases Int.lt_or_le c a with h | h
    · have := Int.mul_lt_mul_of_pos_left h (show (0 : Int) < a by omega)
      omega
    · exact h
  have e : 4 * a * c = 4 * (a * c) := by grind
  refine ⟨⟨by omega, ⟨by omega, ha, hac, fun _ => hb0⟩, by rw [e, hc]; omega, hg⟩, fun p1 p2 p3 => ⟨by omega, ⟨by omega, by omega, hac, fun h => by omega⟩, ?_, by rw [gc_neg]; exact hg⟩⟩
  have e2 : -b * -b = b * b := by grind
  rw [e2, e, hc]; omega
/-- back: what b and a tell of a reduced form -/
theorem of_cf {D a b c : Int} (f : CF D a b c) : ((b.natAbs : Int) * (b.natAbs : Int) - D) / 4 = a * c ∧ (a * c) % a = 0 ∧ (a * c) / a = c ∧ (b < 0 → (b.natAbs : Int) < a ∧ a < c) := by
  have e0 : (b.natAbs : Int) * (b.natAbs : Int) = b * b := by
    rcases Int.natAbs_eq b with h | h
    · rw [← h]
    · generalize (b.natAbs : Int) = n at *
      subst h; grind
  have e : 4 * a * c = 4 * (a * c) := by grind
  have h := f.disc
  have hp := f.pos
  refine ⟨by rw [e0]; omega, Int.mul_emod_right a c, Int.mul_ediv_cancel_left c (by omega), fun hb => ?_⟩
  have h1 := f.red.lo
  have h2 := f.red.ac
  have h3 := f.red.eq
  omega
/-- what the loops have found: the reduced forms with |b| < B, and those with |b| = B and a < A -/
structure Fnd (D B A : Int) (L : List (List Int)) : Prop where
  mem : ∀ t, t ∈ L ↔ ∃ a b c, t = [a, b, c] ∧ CF D a b c ∧ ((b.natAbs : Int) < B ∨ ((b.natAbs : Int) = B ∧ a < A))
  nd : L.Nodup
/-- all reduced forms, ascending -/
structure ClsL (D : Int) (L : List (List Int)) : Prop where
  mem : ∀ t, t ∈ L ↔ ∃ a b c, t = [a, b, c] ∧ CF D a b c
  nd : L.Nodup
theorem Fnd.skip {D B A : Int} {L : List (List Int)} (f : Fnd D B A L) (h : ∀ b c, CF D A b c → (b.natAbs : Int) = B → False) : Fnd D B (A + 1) L := by
  refine ⟨fun t => (f.mem t).trans ⟨?_, ?_⟩, f.nd⟩
  · rintro ⟨a, b, c, e, h1, h2⟩
    exact ⟨a, b, c, e, h1, h2.imp id fun h => ⟨h.1, by omega⟩⟩
  · rintro ⟨a, b, c, e, h1, h2⟩
    refine ⟨a, b, c, e, h1, h2.imp id fun h3 => ⟨h3.1, ?_⟩⟩
    rcases Int.lt_or_le a A with h4 | h4
    · exact h4
    · have : a = A := by omega
      subst this
      exact (h b c h1 h3.1).elim
theorem Fnd.one {D B A C : Int} {L : List (List Int)} (f : Fnd D B A L) (hB : 0 ≤ B) (hc : CF D A B C) (h : ∀ b c, CF D A b c → (b.natAbs : Int) = B → b = B ∧ c = C) : Fnd D B (A + 1) (L ++ [[A, B, C]]) := by
  refine ⟨fun t => ?_, ?_⟩
  · rw [List.mem_append, List.mem_singleton, f.mem]
    constructor
    · rintro (⟨a, b, c, e, h1, h2⟩ | rfl)
      · exact ⟨a, b, c, e, h1, h2.imp id fun h => ⟨h.1, by omega⟩⟩
      · exact ⟨A, B, C, rfl, hc, .inr ⟨by omega, by omega⟩⟩
    · rintro ⟨a, b, c, e, h1, h2⟩
      rcases h2 with h2 | h2
      · exact .inl ⟨a, b, c, e, h1, .inl h2⟩
      · rcases Int.lt_or_le a A with h4 | h4
        · exact .inl ⟨a, b, c, e, h1, .inr ⟨h2.1, h4⟩⟩
        · have : a = A := by omega
          subst this
          obtain ⟨rfl, rfl⟩ := h b c h1 h2.1
          exact .inr e
  · rw [List.nodup_append]
    refine ⟨f.nd, by simp, fun t ht u hu => ?_⟩
    rw [List.mem_singleton] at hu
    subst hu
    rintro rfl
    obtain ⟨a, b, c, e, h1, h2⟩ := (f.mem _).mp ht
    simp only [List.cons.injEq, and_true] at e
    omega
theorem Fnd.two {D B A C : Int} {L : List (List Int)} (f : Fnd D B A L) (hB : 0 < B) (hc : CF D A B C) (hc2 : CF D A (-B) C) (h : ∀ b c, CF D A b c → (b.natAbs : Int) = B → c = C) : Fnd D B (A + 1) (L ++ [[A, B, C]] ++ [[A, -B, C]]) := by
  refine ⟨fun t => ?_, ?_⟩
  · rw [List.mem_append, List.mem_append, List.mem_singleton, List.mem_singleton, f.mem]
    constructor
    · rintro ((⟨a, b, c, e, h1, h2⟩ | rfl) | rfl)
      · exact ⟨a, b, c, e, h1, h2.imp id fun h => ⟨h.1, by omega⟩⟩
      · exact ⟨A, B, C, rfl, hc, .inr ⟨by omega, by omega⟩⟩
      · exact ⟨A, -B, C, rfl, hc2, .inr ⟨by omega, by omega⟩⟩
    · rintro ⟨a, b, c, e, h1, h2⟩
      rcases h2 with h2 | h2
      · exact .inl (.inl ⟨a, b, c, e, h1, .inl h2⟩)
      · rcases Int.lt_or_le a A with h4 | h4
        · exact .inl (.inl ⟨a, b, c, e, h1, .inr ⟨h2.1, h4⟩⟩)
        · have : a = A := by omega
          subst this
          obtain rfl := h b c h1 h2.1
          rcases (show b = B ∨ b = -B by omega) with rfl | rfl
          · exact .inl (.inr e)
          · exact .inr e
  · rw [List.nodup_append, List.nodup_append]
    refine ⟨⟨f.nd, by simp, fun t ht u hu => ?_⟩, by simp, fun t ht u hu => ?_⟩
    · rw [List.mem_singleton] at hu
      subst hu
      rintro rfl
      obtain ⟨a, b, c, e, h1, h2⟩ := (f.mem _).mp ht
      simp only [List.cons.injEq, and_true] at e
      omega
    · rw [List.mem_singleton] at hu
      subst hu
      rintro rfl
      rcases List.mem_append.mp ht with ht | ht
      · obtain ⟨a, b, c, e, h1, h2⟩ := (f.mem _).mp ht
        simp only [List.cons.injEq, and_true] at e
        omega
      · rw [List.mem_singleton] at ht
        simp only [List.cons.injEq, and_true, true_and] at ht
        omega
/-- the inner loop is done -/
theorem Fnd.next {D B A : Int} {L : List (List Int)} (f : Fnd D B A L) (hB0 : 0 ≤ B) (hB : B % 2 = D % 2) (hA : 0 ≤ A) (h : (B * B - D) / 4 < A * A) : Fnd D (B + 2) 0 L := by
  refine ⟨fun t => (f.mem t).trans ⟨?_, ?_⟩, f.nd⟩
  · rintro ⟨a, b, c, e, h1, h2⟩
    exact ⟨a, b, c, e, h1, .inl (by omega)⟩
  · rintro ⟨a, b, c, e, h1, h2⟩
    have hp := h1.par
    have hpos := h1.pos
    refine ⟨a, b, c, e, h1, ?_⟩
    rcases Int.lt_or_le (b.natAbs : Int) B with h3 | h3
    · exact .inl h3
    · have hb : (b.natAbs : Int) = B := by omega
      refine .inr ⟨hb, ?_⟩
      have h4 := (of_cf h1).1
      rw [hb] at h4
      have h5 := h1.ac.2.1
      rcases Int.lt_or_le a A with h6 | h6
      · exact h6
      · have := Int.mul_le_mul h6 h6 hA (by omega)
        omega
theorem Fnd.zero {D B A A' : Int} {L : List (List Int)} (f : Fnd D B A L) (h : ∀ a b c, CF D a b c → (b.natAbs : Int) = B → (A ≤ a ∧ A' ≤ a)) : Fnd D B A' L := by
  refine ⟨fun t => (f.mem t).trans ⟨?_, ?_⟩, f.nd⟩
  · rintro ⟨a, b, c, e, h1, h2⟩
    refine ⟨a, b, c, e, h1, h2.imp id fun h3 => ?_⟩
    have := h a b c h1 h3.1
    omega
  · rintro ⟨a, b, c, e, h1, h2⟩
    refine ⟨a, b, c, e, h1, h2.imp id fun h3 => ?_⟩
    have := h a b c h1 h3.1
    omega
theorem Fnd.done {D B A : Int} {L : List (List Int)} (f : Fnd D B A L) (hB : 0 ≤ B) (h : -D < 3 * B * B) : ClsL D L := by
  refine ⟨fun t => (f.mem t).trans ⟨?_, ?_⟩, f.nd⟩
  · rintro ⟨a, b, c, e, h1, _⟩
    exact ⟨a, b, c, e, h1⟩
  · rintro ⟨a, b, c, e, h1⟩
    refine ⟨a, b, c, e, h1, .inl ?_⟩
    have h2 := h1.ac.2.2
    rcases Int.lt_or_le (b.natAbs : Int) B with h3 | h3
    · exact h3
    · have := Int.mul_le_mul h3 h3 hB (by omega)
      have e0 : (b.natAbs : Int) * (b.natAbs : Int) = b * b := by
        rcases Int.natAbs_eq b with h | h
        · rw [← h]
        · generalize (b.natAbs : Int) = n at *
          subst h; grind
      have e1 : 3 * B * B = 3 * (B * B) := by grind
      omega
theorem fnd_nil {D B : Int} (hB : B = D % 2) : Fnd D B 0 [] := by
  refine ⟨fun t => ⟨fun h => absurd h List.not_mem_nil, ?_⟩, List.nodup_nil⟩
  rintro ⟨a, b, c, e, h1, h2⟩
  have := h1.par
  have := h1.pos
  omega
/-- the first form -/
theorem cf_first {D : Int} (hD : D % 4 = 0 ∨ D % 4 = 1) (h : D ≤ -3) : CF D 1 (D % 2) ((D % 2 * (D % 2) - D) / 4) := by
  have h2 : (D % 2) * (D % 2) = D % 2 := by
    rcases (show D % 2 = 0 ∨ D % 2 = 1 by omega) with h | h <;> rw [h] <;> decide
  have := cf_of (D := D) (b := D % 2) (a := 1) hD (by omega) (by omega) (by omega) (by omega) (by omega) (by omega) (by unfold gc; simp)
  simpa using this.1
end Pi.Fm
namespace Pi.Fm
/-- two reduced forms to which a form is led are equal -/
theorem red_two {a b c g h i j k m n o : Int} (f : Fo a b c) (d1 : g * j - h * i = 1) (d2 : k * o - m * n = 1) (r1 : Red (la a b c g i) (lb a b c g h i j) (la a b c h j)) (r2 : Red (la a b c k n) (lb a b c k m n o) (la a b c m o)) :
    la a b c g i = la a b c k n ∧ lb a b c g h i j = lb a b c k m n o ∧ la a b c h j = la a b c m o := by
  have F1 := f.led d1
  have F2 := f.led d2
  -- B = A (A^-1 B)
  have e1 : g * (j * k + -h * n) + h * (-i * k + g * n) = k := by
    have : g * (j * k + -h * n) + h * (-i * k + g * n) = (g * j - h * i) * k := by grind
    rw [this, d1]; grind
  have e2 : i * (j * k + -h * n) + j * (-i * k + g * n) = n := by
    have : i * (j * k + -h * n) + j * (-i * k + g * n) = (g * j - h * i) * n := by grind
    rw [this, d1]; grind
  have e3 : g * (j * m + -h * o) + h * (-i * m + g * o) = m := by
    have : g * (j * m + -h * o) + h * (-i * m + g * o) = (g * j - h * i) * m := by grind
    rw [this, d1]; grind
  have e4 : i * (j * m + -h * o) + j * (-i * m + g * o) = o := by
    have : i * (j * m + -h * o) + j * (-i * m + g * o) = (g * j - h * i) * o := by grind
    rw [this, d1]; grind
  have q1 := la_mul (a := a) (b := b) (c := c) (g := g) (h := h) (i := i) (j := j) (k := j * k + -h * n) (m := -i * k + g * n)
  have q2 := lb_mul (a := a) (b := b) (c := c) (g := g) (h := h) (i := i) (j := j) (k := j * k + -h * n) (m := j * m + -h * o) (n := -i * k + g * n) (o := -i * m + g * o)
  have q3 := la_mul (a := a) (b := b) (c := c) (g := g) (h := h) (i := i) (j := j) (k := j * m + -h * o) (m := -i * m + g * o)
  rw [e1, e2] at q1
  rw [e1, e2, e3, e4] at q2
  rw [e3, e4] at q3
  have dd : (j * k + -h * n) * (-i * m + g * o) - (j * m + -h * o) * (-i * k + g * n) = 1 := det_mul (by grind) d2
  have hu := red_uniq (h := j * m + -h * o) (j := -i * m + g * o) F1.pos (by rw [q1]; exact F2.pos) r1 (by rw [q1, q2, q3]; exact r2) dd
  rw [q1, q2, q3] at hu
  exact ⟨hu.1.symm, hu.2.1.symm, hu.2.2.symm⟩
theorem CF.small {D a b c : Int} (f : CF D a b c) (hD : -20000 ≤ D) : a ≤ 6667 ∧ c ≤ 6667 ∧ 0 < c := by
  obtain ⟨h1, h2, h3⟩ := f.ac
  have h4 := f.disc
  have e : 4 * a * c = 4 * (a * c) := by grind
  have hp := f.pos
  have hc : a ≤ c := f.red.ac
  have h5 : a * c ≤ 6667 := by omega
  have h6 := Int.mul_le_mul_of_nonneg_right (show (1 : Int) ≤ a by omega) (show (0 : Int) ≤ c by omega)
  omega
theorem CF.fo {D a b c : Int} (f : CF D a b c) (hD : -20000 ≤ D) (hD1 : D ≤ -3) : Fo a b c := ⟨f.pos, by have := f.disc; omega, by have := f.disc; omega, f.pr⟩
end Pi.Fm
/-! Pi0: data trees, the small syntax, the evaluator. -/
namespace Pi
open PySem L2

/-- a datum, without addresses -/
inductive D where
  | non | bl (b : Bool) | int (i : Int) | str (s : Str)
  | tup (l : List D) | lst (l : List D)
  | dk (l : List (Key × D)) | dt (l : List (List Key × D))
  | ins (c : Str) (fs : List (Str × D))
  | ty (n : String)
  /-- a list of ints that is only read (the script) -/
  | scr (l : List Int)
  /-- a tuple of the written part (a module's constant) -/
  | ctup (l : List D)
instance : Inhabited D := ⟨.non⟩

/-- a datum with how deep its mutable objects are owned (0: frozen) -/
abbrev Sl := D × Nat
abbrev Env := List (Option Sl)
def gt : Env → Nat → Option Sl
  | [], _ => none
  | s :: _, 0 => s
  | _ :: r, n + 1 => gt r n
def st : Env → Nat → Option Sl → Env
  | [], _, _ => []
  | _ :: r, 0, x => x :: r
  | s :: r, n + 1, x => s :: st r n x
def wp (ρ : Env) : List Nat → Env
  | [] => ρ
  | v :: vs => st (wp ρ vs) v none

mutual
/-- no mutable object within -/
def imm : D → Bool
  | .tup l => immL l
  | .ctup l => immL l
  | .lst _ | .dk _ | .dt _ | .ins _ _ | .scr _ => false
  | _ => true
def immL : List D → Bool
  | [] => true
  | x :: r => imm x && immL r
end
mutual
/-- owned to the depth n it holds no frozen mutable object -/
def nofz : Nat → D → Bool
  | n, .tup l => nofzL n l
  | n, .lst l => n != 0 && nofzL (n - 1) l
  | n, .dk l => n != 0 && nofzK (n - 1) l
  | n, .dt l => n != 0 && nofzT (n - 1) l
  | _, .ins _ _ => false
  | _, .scr _ => false
  | n, .ctup l => nofzL n l
  | _, _ => true
def nofzL : Nat → List D → Bool
  | _, [] => true
  | n, x :: r => nofz n x && nofzL n r
def nofzK : Nat → List (Key × D) → Bool
  | _, [] => true
  | n, (_, x) :: r => nofz n x && nofzK n r
def nofzT : Nat → List (List Key × D) → Bool
  | _, [] => true
  | n, (_, x) :: r => nofz n x && nofzT n r
def nofzF : Nat → List (Str × D) → Bool
  | _, [] => true
  | n, (_, x) :: r => nofz n x && nofzF n r
end
/-- the slots vs as in ρ0, where a plain value stood there -/
def keepI : Option Sl → Option Sl
  | some (.non, _) => some (.non, 0)
  | some (.bl b, _) => some (.bl b, 0)
  | some (.int i, _) => some (.int i, 0)
  | some (.str s, _) => some (.str s, 0)
  | _ => none
def rst (ρ0 : Env) (ρ : Env) : List Nat → Env
  | [] => ρ
  | v :: vs => st (rst ρ0 ρ vs) v (keepI (gt ρ0 v))
def hasd (k : Nat) (s : Sl) : Bool := decide (k ≤ s.2) || imm s.1

inductive Rs (α : Type) where
  | stk
  | ok (a : α) (ρ : Env)
  | ex (e : D) (ρ : Env)
/-- (simp does not rewrite what a tag names) -/
structure Tag {γ : Sort u} (q : γ) : Type where
def Rs.bind {α β : Type} (r : Rs α) (f : α → Env → Rs β) (_t : Tag f := ⟨⟩) : Rs β := match r with
  | .stk => .stk
  | .ok a ρ => f a ρ
  | .ex e ρ => .ex e ρ
def Rs.of {α : Type} (o : Option α) (ρ : Env) : Rs α := match o with
  | some a => .ok a ρ
  | none => .stk
theorem bind_ok {α β : Type} (a : α) (ρ : Env) (f : α → Env → Rs β) : (Rs.ok a ρ).bind f = f a ρ := rfl
theorem bind_stk {α β : Type} (f : α → Env → Rs β) : (Rs.stk : Rs α).bind f = .stk := rfl
theorem bind_ex {α β : Type} (e : D) (ρ : Env) (f : α → Env → Rs β) : (Rs.ex e ρ : Rs α).bind f = .ex e ρ := rfl
theorem of_some {α : Type} (a : α) (ρ : Env) : Rs.of (some a) ρ = .ok a ρ := rfl
theorem of_none {α : Type} (ρ : Env) : Rs.of (none : Option α) ρ = .stk := rfl

/-- a call's outcome: the value, the parameters that go back -/
inductive Cr where
  | stk
  | ok (v : Sl) (outs : List (Option Sl))
  | ex (e : D) (outs : List (Option Sl))

/-- built-in functions -/
inductive Bn where
  | len | int | abs | max | min | sum | sorted | tuple | list | repr | str | all | any | bool
/-- methods that change nothing -/
inductive Mn where
  | get | items | keys | values | count | index
/-- methods that change the receiver -/
inductive Mm where
  | append | pop | extend | insert | remove | setdefault
inductive Ty where
  | int | bool | str | list | tuple | dict
inductive Tg1 where
  | nm (i : Nat)
  | tp (l : List Nat)
inductive Tg where
  | nm (i : Nat)
  | tp (l : List Nat)
  | tn (l : List Tg1)

/-- expressions, argument lists (nil, cons), tests (tnot ..), what is walked (ival ..) -/
inductive Ex where
  | var (i : Nat) | mv (i : Nat) | q (e : Ex)
  | int (i : Int) | bl (b : Bool) | non | str (s : Str)
  | con (j : Nat)
  | op2 (o : Operator) (a b : Ex) | neg (a : Ex) | not (a : Ex)
  | cmp (o : CmpOp) (a b : Ex) | chain (o o' : CmpOp) (a b c : Ex)
  | and (a b : Ex) | or (a b : Ex) | ite (c a b : Ex)
  | nil | cons (a r : Ex)
  | tup (k : Nat) (l : Ex) | lst (k : Nat) (l : Ex) | dict (k : Nat) (l : Ex)
  | ix (a b : Ex) | fld (a : Ex) (f : Str) | sl (a lo hi : Ex) | rev (a : Ex)
  | call (f : Str) (args : Ex) (sel : List Nat) (backs : List (Nat × Nat)) | lend (i : Nat)
  | blt (f : Bn) (args : Ex) | mth (m : Mn) (o args : Ex)
  | mutv (m : Mm) (i : Nat) (args : Ex) | mutk (m : Mm) (i : Nat) (key : Str) (args : Ex)
  | lc (k : Nat) (own : List Nat) (elt : Ex) (tg : Tg) (it cnd : Ex)
  | isin (a : Ex) (t : Ty)
  | tnot (a : Ex) | tand (a b : Ex) | tor (a b : Ex) | tval (a : Ex) | tyes | tcmp (o : CmpOp) (a b : Ex) | tchain (o o' : CmpOp) (a b c : Ex) | tq (a : Ex)
  | ival (a : Ex) | irng1 (a : Ex) | irng2 (a b : Ex) | irng3 (a b c : Ex) | ienum (a : Ex) | izip (a b : Ex)
  | lrng1 (a : Ex) | lrng2 (a b : Ex)
  /-- o.m(..), the own != of instances, isinstance(x, C) -/
  | chain3 (o o' o2 : CmpOp) (a b c d : Ex) | tchain3 (o o' o2 : CmpOp) (a b c d : Ex)
  | mcall (f : Str) (o args : Ex) | neq (f : Str) (a b : Ex) | tneq (f : Str) (a b : Ex) | isc (c : Str) (a : Ex)

/-! ### operations on data -/
def truthD : D → Option Bool
  | .non => some false
  | .bl b => some b
  | .int i => some (i != 0)
  | .str s => if s.length ≤ sizeLine then some ((s.length : Int) != 0) else none
  | .tup l => some (!l.isEmpty)
  | .ctup l => some (!l.isEmpty)
  | .lst l => some (!l.isEmpty)
  | _ => none
def keyPy : Key → PyData
  | .inl i => .int i
  | .inr s => .str s
mutual
def toPy : D → Option PyData
  | .non => some .none
  | .bl b => some (.bool b)
  | .int i => some (.int i)
  | .str s => some (.str s)
  | .tup l => (toPyL l).map .tuple
  | .ctup l => (toPyL l).map .tuple
  | .lst l => (toPyL l).map .list
  | .dk l => (toPyK l).map .dict
  | _ => none
def toPyL : List D → Option (List PyData)
  | [] => some []
  | x :: r => match toPy x, toPyL r with
    | some p, some ps => some (p :: ps)
    | _, _ => none
def toPyK : List (Key × D) → Option (List (PyData × PyData))
  | [] => some []
  | (k, x) :: r => match toPy x, toPyK r with
    | some p, some ps => some ((keyPy k, p) :: ps)
    | _, _ => none
end
/-- scalars that == tells apart as data does -/
def scalD : D → D → Option Bool
  | .int i, .int j => some (i == j)
  | .str i, .str j => some (i == j)
  | .bl i, .bl j => some (i == j)
  | .non, .non => some true
  | .non, .int _ => some false
  | .int _, .non => some false
  | .non, .bl _ => some false
  | .bl _, .non => some false
  | .non, .str _ => some false
  | .str _, .non => some false
  | .int _, .str _ => some false
  | .str _, .int _ => some false
  | .bl _, .str _ => some false
  | .str _, .bl _ => some false
  | _, _ => none
def eqD (a b : D) : Option Bool := match scalD a b with
  | some r => some r
  | none => match toPy a, toPy b with
    | some p, some q => if SeqAt.shaped p && SeqAt.shaped q then some (PyData.eqv p q) else none
    | _, _ => none
def isKey : D → Option Key
  | .int i => some (.inl i)
  | .str s => some (.inr s)
  | _ => none
def isKeys : List D → Option (List Key)
  | [] => some []
  | x :: r => match isKey x, isKeys r with
    | some k, some ks => some (k :: ks)
    | _, _ => none
section
variable {κ α : Type} [DecidableEq κ]
def getK (l : List (κ × α)) (k : κ) : Option α := match l with
  | [] => none
  | p :: r => if p.1 = k then some p.2 else getK r k
def hasK (l : List (κ × α)) (k : κ) : Bool := match l with
  | [] => false
  | p :: r => if p.1 = k then true else hasK r k
/-- in its place, or at the end -/
def putD (l : List (κ × α)) (k : κ) (v : α) : List (κ × α) := match l with
  | [] => [(k, v)]
  | p :: r => if p.1 = k then (p.1, v) :: r else p :: putD r k v
end
/-- flat data and their == -/
def flatD : D → Bool
  | .non | .bl _ | .int _ | .str _ => true
  | _ => false
def eqF : D → D → Bool
  | .non, .non => true
  | .bl a, .bl b => a == b
  | .bl a, .int b => (if a then 1 else 0) == b
  | .int a, .bl b => a == (if b then 1 else 0)
  | .int a, .int b => a == b
  | .str a, .str b => a == b
  | _, _ => false
def flatL : List D → Bool
  | [] => true
  | x :: r => flatD x && flatL r
def memF (x : D) : List D → Bool
  | [] => false
  | y :: r => eqF y x || memF x r
def inD (x : D) : D → Option Bool
  | .lst l => if flatD x && flatL l then some (memF x l) else
      match toPy x, toPyL l with
      | some p, some ps => if SeqAt.shaped p && SeqAt.shaped (.list ps) then some (ps.any fun z => PyData.eqv z p) else none
      | _, _ => none
  | .tup l => if flatD x && flatL l then some (memF x l) else none
  | .ctup l => if flatD x && flatL l then some (memF x l) else none
  | .dk l => match isKey x with
    | some k => some (hasK l k)
    | none => none
  | .dt l => match x with
    | .tup ks => (isKeys ks).map fun k => hasK l k
    | _ => none
  | _ => none
def isInts : List D → Option (List Int)
  | [] => some []
  | .int i :: r => (isInts r).map (i :: ·)
  | _ :: _ => none
def lexLt : List Int → List Int → Bool
  | [], [] => false
  | [], _ :: _ => true
  | _ :: _, [] => false
  | a :: r, b :: t => if a == b then lexLt r t else decide (a < b)
def isNon : D → Bool
  | .non => true
  | _ => false
def cmpD (o : CmpOp) (a b : D) : Option Bool := match o with
  | .Eq => eqD a b
  | .NotEq => (eqD a b).map (!·)
  | .Lt => match a, b with
    | .int i, .int j => some (decide (i < j))
    | _, _ => none
  | .LtE => match a, b with
    | .int i, .int j => some (decide (i ≤ j))
    | _, _ => none
  | .Gt => match a, b with
    | .int i, .int j => some (decide (j < i))
    | _, _ => none
  | .GtE => match a, b with
    | .int i, .int j => some (decide (j ≤ i))
    | _, _ => none
  | .Is => match b with
    | .non => some (isNon a)
    | .bl y => (match a with
      | .bl x => some (x == y)
      | _ => none)
    | _ => none
  | .IsNot => match b with
    | .non => some (!isNon a)
    | .bl y => (match a with
      | .bl x => some (!(x == y))
      | _ => none)
    | _ => none
  | .In => inD a b
  | .NotIn => (inD a b).map (!·)
def mulOk (i j : Int) : Bool := (decide (i.natAbs < 2 ^ 64) || decide (j.natAbs < 2 ^ 64)) || decide (i.natAbs.log2 + j.natAbs.log2 < 1000000)
def divOk (j : Int) : Bool := decide (0 < j) && (decide (j < 1073741824) || decide (j.natAbs.log2 < 9000))
def addD (a b : D) : Option D := match a, b with
  | .int i, .int j => some (.int (i + j))
  | .str i, .str j => if i.length + j.length ≤ sizeLine then some (.str (i ++ j)) else none
  | .lst l, .lst m => if l.length + m.length ≤ sizeLine then some (.lst (l ++ m)) else none
  | .tup l, .tup m => if l.length + m.length ≤ sizeLine then (if l.isEmpty then none else some (.tup (l ++ m))) else none
  | _, _ => none
def subD (a b : D) : Option D := match a, b with
  | .int i, .int j => some (.int (i - j))
  | _, _ => none
def mulD (a b : D) : Option D := match a, b with
  | .int i, .int j => if mulOk i j then some (.int (i * j)) else none
  | .lst l, .int k => if decide (-(2 ^ 63) ≤ k) && decide (k < 2 ^ 63) && decide (l.length * k.toNat ≤ sizeLine) then some (.lst (List.replicate k.toNat l).flatten) else none
  | _, _ => none
def fdivD (a b : D) : Option D := match a, b with
  | .int i, .int j => if divOk j then some (.int (i / j)) else none
  | _, _ => none
def modD (a b : D) : Option D := match a, b with
  | .int i, .int j => if 0 < j then some (.int (i % j)) else if j ≠ 0 then some (.int (i.fmod j)) else none
  | _, _ => none
def powD (a b : D) : Option D := match a, b with
  | .int i, .int j => if 0 ≤ j && decide (j ≤ 1000000) && decide (i.natAbs < 2 ^ 64) then some (.int (i ^ j.toNat)) else none
  | _, _ => none
def shlD (a b : D) : Option D := match a, b with
  | .int i, .int j => if 0 ≤ j && decide (j ≤ 1000000) && decide (i.natAbs < 2 ^ 64) then some (.int (i * 2 ^ j.toNat)) else none
  | _, _ => none
def shrD (a b : D) : Option D := match a, b with
  | .int i, .int j => if 0 ≤ j then some (.int (i / 2 ^ j.toNat)) else none
  | _, _ => none
def andD (a b : D) : Option D := match a, b with
  | .int i, .int j => some (.int (Builtin.bitAnd i j))
  | _, _ => none
def orD (a b : D) : Option D := match a, b with
  | .int i, .int j => some (.int (Builtin.bitOr i j))
  | _, _ => none
def op2D (o : Operator) (a b : D) : Option D := match o with
  | .Add => addD a b
  | .Sub => subD a b
  | .Mult => mulD a b
  | .FloorDiv => fdivD a b
  | .Mod => modD a b
  | .Pow => powD a b
  | .LShift => shlD a b
  | .RShift => shrD a b
  | .BitAnd => andD a b
  | .BitOr => orD a b
  | _ => none
/-- x op= y -/
def augD (o : Operator) (a b : D) : Option D := match o, a, b with
  | .Add, .int i, .int j => some (.int (i + j))
  | .Add, .str i, .str j => if i.length + j.length ≤ sizeLine then some (.str (i ++ j)) else none
  | .Sub, .int i, .int j => some (.int (i - j))
  | .Mult, .int i, .int j => if (decide (-(2 ^ 64) < i) && decide (i < 2 ^ 64)) || (decide (-(2 ^ 64) < j) && decide (j < 2 ^ 64)) then some (.int (i * j)) else none
  | .FloorDiv, .int i, .int j => if 0 < j ∧ j < 1073741824 then some (.int (i / j)) else none
  | .Mod, .int i, .int j => if 0 < j then some (.int (i % j)) else none
  | .RShift, .int i, .int j => if 0 ≤ j then some (.int (i / 2 ^ j.toNat)) else none
  | .BitAnd, .int i, .int j => some (.int (Builtin.bitAnd i j))
  | .BitOr, .int i, .int j => some (.int (Builtin.bitOr i j))
  | _, _, _ => none
/-- the depth at which a new value of an operation is owned -/
def dep : D → Nat
  | .lst _ | .dk _ | .dt _ => 1
  | _ => 0
def fr (d : D) : Sl := (d, dep d)
def lenD : D → Option Nat
  | .str s => if s.length ≤ sizeLine then some s.length else none
  | .tup l => some l.length
  | .ctup l => some l.length
  | .lst l => some l.length
  | .dk l => some l.length
  | .scr l => some l.length
  | _ => none
mutual
def noListP : PyData → Bool
  | .list _ => false
  | .tuple l => noListPs l
  | .dict l => noListPk l
  | _ => true
def noListPs : List PyData → Bool
  | [] => true
  | x :: r => noListP x && noListPs r
def noListPk : List (PyData × PyData) → Bool
  | [] => true
  | (x, y) :: r => noListP x && noListP y && noListPk r
end
def reprD (d : D) : Option Str := match toPy d with
  | some p => if p.showable && decide (p.depth ≤ 60) && decide (p.shown.length ≤ sizeLine) && (!p.hasDict || noListP p) then some p.shown else none
  | none => none
def isBls : List D → Option (List Bool)
  | [] => some []
  | .bl i :: r => (isBls r).map (i :: ·)
  | _ :: _ => none
def insertI (x : Int) : List Int → List Int
  | [] => [x]
  | y :: r => if x ≤ y then x :: y :: r else y :: insertI x r
def sortI : List Int → List Int
  | [] => []
  | x :: r => insertI x (sortI r)
def maxI (x : Int) : List Int → Int
  | [] => x
  | y :: r => maxI (if x < y then y else x) r
def minI (x : Int) : List Int → Int
  | [] => x
  | y :: r => minI (if y < x then y else x) r
def one (f : D → Option D) : List D → Option D
  | [x] => f x
  | _ => none
def lenB (x : D) : Option D := (lenD x).map fun n => .int (n : Nat)
def intB : D → Option D
  | .int i => some (.int i)
  | .bl b => some (.int (if b then 1 else 0))
  | _ => none
def boolB : D → Option D
  | .int i => some (.bl (i != 0))
  | .bl b => some (.bl b)
  | _ => none
def absB : D → Option D
  | .int i => some (.int (if i < 0 then -i else i))
  | _ => none
def maxB : List D → Option D
  | [.int i, .int j] => some (.int (if j > i then j else i))
  | [.lst l] => match isInts l with
    | some (x :: r) => some (.int (maxI x r))
    | _ => none
  | _ => none
def minB : List D → Option D
  | [.int i, .int j] => some (.int (if j < i then j else i))
  | [.lst l] => match isInts l with
    | some (x :: r) => some (.int (minI x r))
    | _ => none
  | _ => none
def sumB : D → Option D
  | .lst l => (isInts l).map fun ns => .int ns.sum
  | _ => none
/-- tuples of ints, none of them empty -/
def isTI : List D → Option (List (List Int))
  | [] => some []
  | .tup l :: r => match isInts l, isTI r with
    | some (x :: xs), some ts => some ((x :: xs) :: ts)
    | _, _ => none
  | _ :: _ => none
def insertT (x : List Int) : List (List Int) → List (List Int)
  | [] => [x]
  | y :: r => if lexLt y x then y :: insertT x r else x :: y :: r
def sortT : List (List Int) → List (List Int)
  | [] => []
  | x :: r => insertT x (sortT r)
def tupI (l : List Int) : D := .tup (l.map .int)
def sortedB : D → Option D
  | .lst l => match isInts l with
    | some ns => some (.lst ((sortI ns).map .int))
    | none => (isTI l).map fun ts => .lst ((sortT ts).map tupI)
  | _ => none
def tupleB : D → Option D
  | .lst l => some (.tup l)
  | .tup l => some (.tup l)
  | .ctup l => some (.ctup l)
  | _ => none
def listB : D → Option D
  | .lst l => some (.lst l)
  | .tup l => some (.lst l)
  | .ctup l => some (.lst l)
  | .scr l => some (.lst (l.map .int))
  | _ => none
def reprB (x : D) : Option D := (reprD x).map .str
def strB : D → Option D
  | .int i => if i.natAbs.log2 < 1920 then some (.str (toString i)) else none
  | _ => none
def allB : D → Option D
  | .lst l => (isBls l).map fun bs => .bl (bs.all id)
  | _ => none
def anyB : D → Option D
  | .lst l => (isBls l).map fun bs => .bl (bs.any id)
  | _ => none
def bltD (f : Bn) (l : List D) : Option D := match f with
  | .len => one lenB l
  | .int => one intB l
  | .bool => one boolB l
  | .abs => one absB l
  | .max => maxB l
  | .min => minB l
  | .sum => one sumB l
  | .sorted => one sortedB l
  | .tuple => one tupleB l
  | .list => one listB l
  | .repr => one reprB l
  | .str => one strB l
  | .all => one allB l
  | .any => one anyB l
def getM (kvs : List (Key × D)) : List D → Option D
  | [k] => (isKey k).map fun k => (getK kvs k).getD .non
  | [k, x] => (isKey k).map fun k => (getK kvs k).getD x
  | _ => none
def mthD (m : Mn) (o : D) (l : List D) : Option D := match m, o with
  | .get, .dk kvs => getM kvs l
  | _, _ => none
/-- place of an index of any sign -/
def ixD (a b : D) : Option D := match a, b with
  | .lst l, .int i => atI l i
  | .tup l, .int i => atI l i
  | .ctup l, .int i => atI l i
  | .str s, .int i => if s.length ≤ sizeLine then (atI s.cps.toList i).map fun c => .str ⟨#[c]⟩ else none
  | .dk l, k => match isKey k with
    | some k => getK l k
    | none => none
  | .dt l, .tup ks => match isKeys ks with
    | some k => getK l k
    | none => none
  | _, _ => none
def cutD (l : List D) (lo hi : Option Int) : List D := (l.drop (HT.sIx l.length 0 lo)).take (HT.sIx l.length l.length hi - HT.sIx l.length 0 lo)
def slD (a : D) (lo hi : Option Int) : Option D := match a with
  | .lst l => some (.lst (cutD l lo hi))
  | .tup l => some (.tup (cutD l lo hi))
  | .scr l => some (.lst (cutD (l.map .int) lo hi))
  | _ => none
def revD (a : D) : Option D := match a with
  | .lst l => some (.lst l.reverse)
  | _ => none
def tyD : D → Option String
  | .non => some "NoneType"
  | .bl _ => some "bool"
  | .int _ => some "int"
  | .str _ => some "str"
  | .tup _ => some "tuple"
  | .ctup _ => some "tuple"
  | .lst _ => some "list"
  | .dk _ => some "dict"
  | _ => none
def Ty.nm : Ty → String
  | .int => "int" | .bool => "bool" | .str => "str" | .list => "list" | .tuple => "tuple" | .dict => "dict"
def isinD (a : D) (t : Ty) : Option Bool := match t, a with
  | .int, .int _ => some true
  | .int, .bl _ => some true
  | .bool, .bl _ => some true
  | .str, .str _ => some true
  | .list, .lst _ => some true
  | .tuple, .tup _ => some true
  | .tuple, .ctup _ => some true
  | .dict, .dk _ => some true
  | _, a => (tyD a).map fun _ => false
/-- a method that changes a container: its value, the container behind it; the receiver owned to the depth n -/
def mutD (m : Mm) (o : D) (n : Nat) (l : List Sl) : Option (Sl × D) := match m, o, l with
  | .append, .lst xs, [x] => if xs.length < sizeLine && hasd (n - 1) x then some ((.non, 0), .lst (xs ++ [x.1])) else none
  | .pop, .lst xs, [] => (xs[xs.length - 1]?).map fun y => ((y, n - 1), .lst xs.dropLast)
  | .pop, .lst xs, [(.int i, _)] => match ixN xs.length i with
    | some j => (xs[j]?).map fun y => ((y, n - 1), .lst (xs.eraseIdx j))
    | none => none
  | .extend, .lst xs, [(.lst ys, k)] => if xs.length + ys.length ≤ sizeLine && (n == 1 || decide (n ≤ k) || immL ys) then some ((.non, 0), .lst (xs ++ ys)) else none
  | .setdefault, .dk kvs, [(k, _), x] => match isKey k with
    | some k => match getK kvs k with
      | some y => if n == 1 then some ((y, 0), .dk kvs) else none
      | none => if kvs.length < sizeLine && imm x.1 then some ((x.1, 0), .dk (kvs ++ [(k, x.1)])) else none
    | none => none
  | _, _, _ => none
/-- o[i] = v -/
def setD (o : D) (n : Nat) (i : D) (v : Sl) : Option D := match o, i with
  | .lst xs, .int k => match ixN xs.length k with
    | some j => if hasd (n - 1) v then some (.lst (xs.set j v.1)) else none
    | none => none
  | .dk l, k => match isKey k with
    | some k => if l.length < sizeLine && hasd (n - 1) v then some (.dk (putD l k v.1)) else none
    | none => none
  | _, _ => none

def kndD : Option Sl → Nat
  | some (.lst _, _) => 1
  | some (.dk _, _) => 2
  | _ => 0
def kndK : Option Sl → Str → Nat
  | some (.dk kvs, _), key => match getK kvs (.inr key) with
    | some d => kndD (some (d, 0))
    | none => 0
  | _, _ => 0
def mmK : Mm → Nat
  | .setdefault => 2
  | _ => 1
structure Cf where
  call : Str → List Sl → Cr
  con : List D
  fuel : Nat

def setT (tg : Tg) (d : D) (ρ : Env) : Option Env := match tg with
  | .nm i => some (st ρ i (some (d, 0)))
  | .tp l => match d with
    | .tup ds => go l ds ρ
    | _ => none
  | .tn l => match d with
    | .tup ds => go1 l ds ρ
    | _ => none
where
  go : List Nat → List D → Env → Option Env
    | [], [], ρ => some ρ
    | i :: is, x :: xs, ρ => go is xs (st ρ i (some (x, 0)))
    | _, _, _ => none
  go1 : List Tg1 → List D → Env → Option Env
    | [], [], ρ => some ρ
    | .nm i :: is, x :: xs, ρ => go1 is xs (st ρ i (some (x, 0)))
    | .tp l :: is, .tup ds :: xs, ρ => match go l ds ρ with
      | some ρ' => go1 is xs ρ'
      | none => none
    | _, _, _ => none
def lcL (f : D → Env → Rs (Option D)) : List D → Env → Rs (List D)
  | [], ρ => .ok [] ρ
  | x :: xs, ρ => (f x ρ).bind fun y ρ1 => (lcL f xs ρ1).bind fun ys ρ2 => .ok (match y with | some z => z :: ys | none => ys) ρ2
/-- an argument: a value, or a name whose object is lent -/
inductive Ar where
  | val (s : Sl)
  | ln (i : Nat)
def valsA : List Ar → Option (List Sl)
  | [] => some []
  | .val s :: r => (valsA r).map (s :: ·)
  | .ln _ :: _ => none
/-- the lent objects are taken out of their slots -/
def resolveA : List Ar → Env → Option (List Sl × Env)
  | [], ρ => some ([], ρ)
  | .val s :: r, ρ => match resolveA r ρ with
    | some (xs, ρ') => some (s :: xs, ρ')
    | none => none
  | .ln i :: r, ρ => match gt ρ i with
    | some s => match resolveA r (st ρ i none) with
      | some (xs, ρ') => some (s :: xs, ρ')
      | none => none
    | none => none
def demL (l : List Sl) : List D := l.map (·.1)
def selL {α : Type} (l : List α) : List Nat → List α
  | [] => l
  | ks => ks.filterMap fun k => l[k]?
def backsTo (outs : List (Option Sl)) (ρ : Env) : List (Nat × Nat) → Env
  | [] => ρ
  | (i, j) :: r => backsTo outs (st ρ i ((outs[j]?).getD none)) r
def pairsK : List D → Option (List (Key × D))
  | [] => some []
  | k :: v :: r => match isKey k, pairsK r with
    | some k, some ps => some ((k, v) :: ps)
    | _, _ => none
  | _ => none
def mergeD {κ α : Type} [DecidableEq κ] (acc : List (κ × α)) : List (κ × α) → List (κ × α)
  | [] => acc
  | (k, v) :: r => mergeD (putD acc k v) r
/-- the ints of a range -/
def rngD (a b : D) : Option (List D) := match a, b with
  | .int a, .int b => if decide (-(2 ^ 62) ≤ a) && decide (a < 2 ^ 62) && decide (-(2 ^ 62) ≤ b) && decide (b < 2 ^ 62) then
      some ((List.range (b - a).toNat).map fun k => .int (a + (k : Nat))) else none
  | _, _ => none
/-- the ints of a range with a step -/
def rng3D (a b c : D) : Option (List D) := match a, b, c with
  | .int i, .int j, .int k => if decide (k ≠ 0) && decide (k.natAbs < 1073741824) && Builtin.Range.small i j k && decide (0 ≤ Builtin.Range.rangeSize i j k) then
      some ((List.range (Builtin.Range.rangeSize i j k).toNat).map fun n => .int (i + (n : Nat) * k)) else none
  | _, _, _ => none
/-- the items with their places -/
def enumD (l : List D) : List D := l.zipIdx.map fun p => .tup [.int (p.2 : Nat), p.1]
def itemsD : D → Option (List D)
  | .lst l => some l
  | .tup l => some l
  | .ctup l => some l
  | .scr l => some (l.map .int)
  | _ => none

def neqD (call : Str → List Sl → Cr) (f : Str) (x y : D) : Option Bool := match x, y, call f [(x, 0), (y, 0)] with
  | .ins c1 _, .ins c2 _, .ok (.bl r, _) _ => if c1 = c2 then some (!r) else none
  | _, _, _ => none
mutual
def ev (cf : Cf) : Ex → Env → Rs Sl
  | .var i, ρ => match gt ρ i with
    | some s => .ok (s.1, 0) (st ρ i (some (s.1, 0)))
    | none => .stk
  | .mv i, ρ => match gt ρ i with
    | some s => .ok s (st ρ i none)
    | none => .stk
  | .q e, ρ => (ev cf e ρ).bind fun s ρ1 => .ok s (if nofz s.2 s.1 then ρ else ρ1)
  | .int i, ρ => .ok (.int i, 0) ρ
  | .bl b, ρ => .ok (.bl b, 0) ρ
  | .non, ρ => .ok (.non, 0) ρ
  | .str s, ρ => .ok (.str s, 0) ρ
  | .con j, ρ => (Rs.of cf.con[j]? ρ).bind fun d ρ1 => .ok (d, 0) ρ1
  | .op2 o a b, ρ => (ev cf a ρ).bind fun x ρ1 => (ev cf b ρ1).bind fun y ρ2 => (Rs.of (op2D o x.1 y.1) ρ2).bind fun d ρ3 => .ok (fr d) ρ3
  | .neg a, ρ => (ev cf a ρ).bind fun x ρ1 => match x.1 with
    | .int i => .ok (.int (-i), 0) ρ1
    | _ => .stk
  | .not a, ρ => (ev cf a ρ).bind fun x ρ1 => (Rs.of (truthD x.1) ρ1).bind fun b ρ2 => .ok (.bl (!b), 0) ρ2
  | .cmp o a b, ρ => (ev cf a ρ).bind fun x ρ1 => (ev cf b ρ1).bind fun y ρ2 => (Rs.of (cmpD o x.1 y.1) ρ2).bind fun d ρ3 => .ok (.bl d, 0) ρ3
  | .chain o o' a b c, ρ => (ev cf a ρ).bind fun x ρ1 => (ev cf b ρ1).bind fun y ρ2 => (Rs.of (cmpD o x.1 y.1) ρ2).bind fun d ρ3 =>
      if d then (ev cf c ρ3).bind fun z ρ4 => (Rs.of (cmpD o' y.1 z.1) ρ4).bind fun d' ρ5 => .ok (.bl d', 0) ρ5 else .ok (.bl false, 0) ρ3
  | .chain3 o o' o2 a b c d, ρ => ((ev cf a ρ).bind fun x ρ1 => (ev cf b ρ1).bind fun y ρ2 => (Rs.of (cmpD o x.1 y.1) ρ2).bind fun t ρ3 =>
      if t then (ev cf c ρ3).bind fun z ρ4 => (Rs.of (cmpD o' y.1 z.1) ρ4).bind fun t2 ρ5 => if t2 then (ev cf d ρ5).bind fun w ρ6 => Rs.of (cmpD o2 z.1 w.1) ρ6 else .ok false ρ5 else .ok false ρ3).bind fun r ρ7 => .ok (.bl r, 0) ρ7
  | .and a b, ρ => (ev cf a ρ).bind fun x ρ1 => match x.1 with
    | .bl true => ev cf b ρ1
    | .bl false => .ok (.bl false, 0) ρ1
    | _ => .stk
  | .or a b, ρ => (ev cf a ρ).bind fun x ρ1 => match x.1 with
    | .bl true => .ok (.bl true, 0) ρ1
    | .bl false => ev cf b ρ1
    | _ => .stk
  | .ite c a b, ρ => (evT cf c ρ).bind fun t ρ1 => if t then ev cf a ρ1 else ev cf b ρ1
  | .tup k l, ρ => ((evA cf l ρ).bind fun as ρa => Rs.of (valsA as) ρa).bind fun xs ρ1 => if xs.all (hasd k) && decide (xs.length ≤ sizeLine) then .ok (.tup (demL xs), k) ρ1 else .stk
  | .lst k l, ρ => ((evA cf l ρ).bind fun as ρa => Rs.of (valsA as) ρa).bind fun xs ρ1 => if xs.all (hasd k) && decide (xs.length ≤ sizeLine) then .ok (.lst (demL xs), k + 1) ρ1 else .stk
  | .dict k l, ρ => ((evA cf l ρ).bind fun as ρa => Rs.of (valsA as) ρa).bind fun xs ρ1 => if xs.all (hasd k) && decide (xs.length ≤ 30) then
      (match pairsK (demL xs) with | some ps => .ok (.dk (mergeD [] ps), k + 1) ρ1 | none => .stk) else .stk
  | .ix a b, ρ => (ev cf a ρ).bind fun x ρ1 => (ev cf b ρ1).bind fun y ρ2 => (Rs.of (ixD x.1 y.1) ρ2).bind fun d ρ3 => .ok (d, 0) ρ3
  | .fld a f, ρ => (ev cf a ρ).bind fun x ρ1 => match x.1 with
    | .ins _ fs => (Rs.of (fs.lookup f) ρ1).bind fun d ρ2 => .ok (d, 0) ρ2
    | _ => .stk
  | .sl a lo hi, ρ => (ev cf a ρ).bind fun x ρ1 => (evO cf lo ρ1).bind fun l ρ2 => (evO cf hi ρ2).bind fun h ρ3 => (Rs.of (slD x.1 l h) ρ3).bind fun d ρ4 => .ok (fr d) ρ4
  | .rev a, ρ => (ev cf a ρ).bind fun x ρ1 => (Rs.of (revD x.1) ρ1).bind fun d ρ2 => .ok (fr d) ρ2
  | .call f args sel backs, ρ => (evA cf args ρ).bind fun as ρ0 => match resolveA as ρ0 with
    | some (xs, ρ1) => if backs.all (fun p => (gt ρ1 p.1).isNone) then (match cf.call f (selL xs sel) with
      | .stk => .stk
      | .ok v outs => .ok v (backsTo outs ρ1 backs)
      | .ex e outs => .ex e (backsTo outs ρ1 backs)) else .stk
    | none => .stk
  | .blt f args, ρ => ((evA cf args ρ).bind fun as ρa => Rs.of (valsA as) ρa).bind fun xs ρ1 => (Rs.of (bltD f (demL xs)) ρ1).bind fun d ρ2 => .ok (fr d) ρ2
  | .mth m o args, ρ => (ev cf o ρ).bind fun x ρ1 => ((evA cf args ρ1).bind fun as ρa => Rs.of (valsA as) ρa).bind fun xs ρ2 => (Rs.of (mthD m x.1 (demL xs)) ρ2).bind fun d ρ3 => .ok (d, 0) ρ3
  | .mutv m i args, ρ => if kndD (gt ρ i) != mmK m then .stk else ((evA cf args ρ).bind fun as ρa => Rs.of (valsA as) ρa).bind fun xs ρ1 => match gt ρ1 i with
    | some (d, n + 1) => match mutD m d (n + 1) xs with
      | some (v, d') => .ok v (st ρ1 i (some (d', n + 1)))
      | none => .stk
    | _ => .stk
  | .mutk m i key args, ρ => if kndK (gt ρ i) key != mmK m then .stk else ((evA cf args ρ).bind fun as ρa => Rs.of (valsA as) ρa).bind fun xs ρ1 => match gt ρ1 i with
    | some (.dk kvs, n + 2) => match getK kvs (.inr key) with
      | some d => match mutD m d (n + 1) xs with
        | some (v, d') => .ok v (st ρ1 i (some (.dk (putD kvs (.inr key) d'), n + 2)))
        | none => .stk
      | none => .stk
    | _ => .stk
  | .lc k own elt tg it cnd, ρ => (evI cf it ρ).bind fun xs ρ1 =>
      (lcL (fun x ρ => match setT tg x ρ with
        | none => .stk
        | some ρ2 => (evT cf cnd ρ2).bind fun t ρ3 => if t then
            (ev cf elt ρ3).bind fun s ρ4 => if hasd k s then .ok (some s.1) (wp ρ4 own) else .stk
          else .ok none (wp ρ3 own)) xs (wp ρ1 own)).bind fun ys ρ5 => if ys.length ≤ sizeLine then .ok (.lst ys, k + 1) (rst ρ1 ρ5 own) else .stk
  | .lrng1 a, ρ => (ev cf a ρ).bind fun x ρ1 => (Rs.of (rngD (.int 0) x.1) ρ1).bind fun l ρ2 => if l.length ≤ 2 ^ 24 then .ok (.lst l, 1) ρ2 else .stk
  | .lrng2 a b, ρ => (ev cf a ρ).bind fun x ρ1 => (ev cf b ρ1).bind fun y ρ2 => (Rs.of (rngD x.1 y.1) ρ2).bind fun l ρ3 => if l.length ≤ 2 ^ 24 then .ok (.lst l, 1) ρ3 else .stk
  | .mcall f o l, ρ => (ev cf o ρ).bind fun x ρ1 => ((evA cf l ρ1).bind fun as ρa => Rs.of (valsA as) ρa).bind fun xs ρ2 => match cf.call f ((x.1, 0) :: xs.map fun y => (y.1, 0)) with
    | .ok v _ => .ok v ρ2
    | _ => .stk
  | .neq f a b, ρ => (ev cf a ρ).bind fun x ρ1 => (ev cf b ρ1).bind fun y ρ2 => (Rs.of (neqD cf.call f x.1 y.1) ρ2).bind fun r ρ3 => .ok (.bl r, 0) ρ3
  | .isc c a, ρ => (ev cf a ρ).bind fun x ρ1 => match x.1 with
    | .ins c' _ => if c' = c then .ok (.bl true, 0) ρ1 else .stk
    | _ => .stk
  | .isin a t, ρ => (ev cf a ρ).bind fun x ρ1 => (Rs.of (isinD x.1 t) ρ1).bind fun b ρ2 => .ok (.bl b, 0) ρ2
  | _, _ => .stk
def evA (cf : Cf) : Ex → Env → Rs (List Ar)
  | .nil, ρ => .ok [] ρ
  | .cons (.lend i) r, ρ => if (gt ρ i).isSome then (evA cf r ρ).bind fun xs ρ2 => .ok (.ln i :: xs) ρ2 else .stk
  | .cons a r, ρ => (ev cf a ρ).bind fun x ρ1 => (evA cf r ρ1).bind fun xs ρ2 => .ok (.val x :: xs) ρ2
  | _, _ => .stk
def evO (cf : Cf) : Ex → Env → Rs (Option Int)
  | .nil, ρ => .ok none ρ
  | .ival a, ρ => (ev cf a ρ).bind fun x ρ1 => match x.1 with
    | .int i => .ok (some i) ρ1
    | _ => .stk
  | _, _ => .stk
def evT (cf : Cf) : Ex → Env → Rs Bool
  | .tyes, ρ => .ok true ρ
  | .tnot a, ρ => (evT cf a ρ).bind fun b ρ1 => .ok (!b) ρ1
  | .tand a b, ρ => (evT cf a ρ).bind fun x ρ1 => if x then evT cf b ρ1 else .ok false ρ1
  | .tor a b, ρ => (evT cf a ρ).bind fun x ρ1 => if x then .ok true ρ1 else evT cf b ρ1
  | .tval a, ρ => (ev cf a ρ).bind fun x ρ1 => Rs.of (truthD x.1) ρ1
  | .tq a, ρ => (evT cf a ρ).bind fun b _ => .ok b ρ
  | .tneq f a b, ρ => (ev cf a ρ).bind fun x ρ1 => (ev cf b ρ1).bind fun y ρ2 => Rs.of (neqD cf.call f x.1 y.1) ρ2
  | .tcmp o a b, ρ => (ev cf a ρ).bind fun x ρ1 => (ev cf b ρ1).bind fun y ρ2 => Rs.of (cmpD o x.1 y.1) ρ2
  | .tchain o o' a b c, ρ => (ev cf a ρ).bind fun x ρ1 => (ev cf b ρ1).bind fun y ρ2 => (Rs.of (cmpD o x.1 y.1) ρ2).bind fun d ρ3 =>
      if d then (ev cf c ρ3).bind fun z ρ4 => Rs.of (cmpD o' y.1 z.1) ρ4 else .ok false ρ3
  | .tchain3 o o' o2 a b c d, ρ => (ev cf a ρ).bind fun x ρ1 => (ev cf b ρ1).bind fun y ρ2 => (Rs.of (cmpD o x.1 y.1) ρ2).bind fun t ρ3 =>
      if t then (ev cf c ρ3).bind fun z ρ4 => (Rs.of (cmpD o' y.1 z.1) ρ4).bind fun t2 ρ5 => if t2 then (ev cf d ρ5).bind fun w ρ6 => Rs.of (cmpD o2 z.1 w.1) ρ6 else .ok false ρ5 else .ok false ρ3
  | _, _ => .stk
def evI (cf : Cf) : Ex → Env → Rs (List D)
  | .ival a, ρ => (ev cf a ρ).bind fun x ρ1 => Rs.of (itemsD x.1) ρ1
  | .irng1 a, ρ => (ev cf a ρ).bind fun x ρ1 => Rs.of (rngD (.int 0) x.1) ρ1
  | .irng2 a b, ρ => (ev cf a ρ).bind fun x ρ1 => (ev cf b ρ1).bind fun y ρ2 => Rs.of (rngD x.1 y.1) ρ2
  | .irng3 a b c, ρ => (ev cf a ρ).bind fun x ρ1 => (ev cf b ρ1).bind fun y ρ2 => (ev cf c ρ2).bind fun z ρ3 => Rs.of (rng3D x.1 y.1 z.1) ρ3
  | .ienum a, ρ => (ev cf a ρ).bind fun x ρ1 => match x.1 with
    | .lst l => .ok (enumD l) ρ1
    | .tup l => .ok (enumD l) ρ1
    | _ => .stk
  | .izip a b, ρ => (ev cf a ρ).bind fun x ρ1 => (ev cf b ρ1).bind fun y ρ2 => (Rs.of (itemsD x.1) ρ2).bind fun l ρ3 => (Rs.of (itemsD y.1) ρ3).bind fun m ρ4 =>
      .ok (List.zipWith (fun u v => .tup [u, v]) l m) ρ4
  | _, _ => .stk
end

/-! ### statements -/
inductive Sm where
  | skip | seq (a b : Sm)
  | expr (e : Ex) | asg (t : Tg) (e : Ex) | par (l : List Nat) (e : Ex)
  | aug (i : Nat) (o : Operator) (e : Ex)
  | setix (i : Nat) (k e : Ex) | augix (i : Nat) (k : Ex) (o : Operator) (e : Ex)
  | ret (e : Ex) | retn | ifs (c : Ex) (a b : Sm) | whl (c : Ex) (b : Sm) | fors (hide : Option Nat) (t : Tg) (it : Ex) (b : Sm)
  | brk | cnt | never
  /-- behind an __init__: the new instance (its slot is the first) -/
  | mkins (c : Str) (fs : List (Str × Nat))
inductive Fl where
  | nx | bk | ct | rt (v : Sl)
def forL (f : D → Env → Rs Fl) : List D → Env → Rs Fl
  | [], ρ => .ok .nx ρ
  | x :: xs, ρ => (f x ρ).bind fun fl ρ1 => match fl with
    | .nx => forL f xs ρ1
    | .ct => forL f xs ρ1
    | .bk => .ok .nx ρ1
    | .rt v => .ok (.rt v) ρ1
def whileL (c : Env → Rs Bool) (f : Env → Rs Fl) : Nat → Env → Rs Fl
  | 0, _ => .stk
  | n + 1, ρ => (c ρ).bind fun b ρ1 => if b then (f ρ1).bind fun fl ρ2 => (match fl with
      | .nx => whileL c f n ρ2
      | .ct => whileL c f n ρ2
      | .bk => .ok .nx ρ2
      | .rt v => .ok (.rt v) ρ2) else .ok .nx ρ1
def setAll : List Nat → List Sl → Env → Option Env
  | [], [], ρ => some ρ
  | i :: is, x :: xs, ρ => setAll is xs (st ρ i (some x))
  | _, _, _ => none
def fldsOf : List (Str × Nat) → Env → Option (List (Str × D))
  | [], _ => some []
  | (f, j) :: r, ρ => match gt ρ j, fldsOf r ρ with
    | some (d, _), some l => if flatD d then some ((f, d) :: l) else none
    | _, _ => none
/-- an __init__'s body -/
def isMk : Sm → Bool
  | .seq _ b => isMk b
  | .mkins _ _ => true
  | _ => false
def exec (cf : Cf) : Sm → Env → Rs Fl
  | .skip, ρ => .ok .nx ρ
  | .seq a b, ρ => (exec cf a ρ).bind fun fl ρ1 => match fl with
    | .nx => exec cf b ρ1
    | fl => .ok fl ρ1
  | .expr e, ρ => (ev cf e ρ).bind fun _ ρ1 => .ok .nx ρ1
  | .asg (.nm i) e, ρ => (ev cf e ρ).bind fun x ρ1 => .ok .nx (st ρ1 i (some x))
  | .asg t e, ρ => (ev cf e ρ).bind fun x ρ1 => (Rs.of (setT t x.1 ρ1) ρ1).bind fun ρ2 _ => .ok .nx ρ2
  | .par l e, ρ => ((evA cf e ρ).bind fun as ρa => Rs.of (valsA as) ρa).bind fun xs ρ1 => (Rs.of (setAll l xs ρ1) ρ1).bind fun ρ2 _ => .ok .nx ρ2
  | .aug i o e, ρ => match gt ρ i with
    | some (x, _) => if flatD x then (ev cf e ρ).bind fun y ρ1 => (Rs.of (augD o x y.1) ρ1).bind fun d ρ2 => .ok .nx (st ρ2 i (some (d, 0))) else .stk
    | _ => .stk
  | .setix i k e, ρ => (ev cf e ρ).bind fun v ρ1 => if (gt ρ1 i).isNone then .stk else (ev cf k ρ1).bind fun kk ρ2 => match gt ρ2 i with
    | some (d, n + 1) => match setD d (n + 1) kk.1 v with
      | some d' => .ok .nx (st ρ2 i (some (d', n + 1)))
      | none => .stk
    | _ => .stk
  | .augix i k o e, ρ => if (gt ρ i).isNone then .stk else (ev cf k ρ).bind fun kk ρ1 => match gt ρ1 i, kk.1 with
    | some (.lst l, _), .int j => match atI l j with
      | some (.int x) => if 0 ≤ j then (ev cf e ρ1).bind fun y ρ2 => match gt ρ2 i, augD o (.int x) y.1 with
        | some (d, n + 1), some (.int z) => match setD d (n + 1) (.int j) (.int z, 0) with
          | some d' => .ok .nx (st ρ2 i (some (d', n + 1)))
          | none => .stk
        | _, _ => .stk
        else .stk
      | _ => .stk
    | _, _ => .stk
  | .ret e, ρ => (ev cf e ρ).bind fun x ρ1 => .ok (.rt x) ρ1
  | .retn, ρ => .ok (.rt (.non, 0)) ρ
  | .ifs c a b, ρ => (evT cf c ρ).bind fun t ρ1 => if t then exec cf a ρ1 else exec cf b ρ1
  | .whl c b, ρ => whileL (evT cf c) (exec cf b) cf.fuel ρ
  | .fors hide t it b, ρ => (evI cf it ρ).bind fun xs ρ1 => match hide with
    | none => forL (fun x ρ => match setT t x ρ with | some ρ2 => exec cf b ρ2 | none => .stk) xs ρ1
    | some i => if immL xs then
        (forL (fun x ρ => match setT t x ρ with | some ρ2 => exec cf b ρ2 | none => .stk) xs (st ρ1 i none)).bind fun fl ρ3 => .ok fl (st ρ3 i (gt ρ i))
      else .stk
  | .brk, ρ => .ok .bk ρ
  | .cnt, ρ => .ok .ct ρ
  | .never, _ => .stk
  | .mkins c fs, ρ => match fldsOf fs ρ with
    | some l => .ok (.rt (.ins c l, 0)) ρ
    | none => .stk

/-- a def: parameters, slots, the parameters that go back, the body -/
structure Df where
  np : Nat
  nl : Nat
  io : List Nat
  body : Sm
  /-- of a method: the class, the short name -/
  rc : Option (Str × Str) := none
/-- a method's first argument is an instance that has no such field -/
def rcOk : Option (Str × Str) → List Sl → Bool
  | none, _ => true
  | some (c, m), (.ins c' fs, _) :: _ => decide (c' = c) && (fs.lookup m).isNone
  | _, _ => false
def outsOf (df : Df) (ρ : Env) : List (Option Sl) := (List.range df.np).map fun j => if df.io.contains j then gt ρ j else none
def runDf (cf : Cf) (df : Df) (args : List Sl) : Cr := if args.length = df.np then
    match exec cf df.body (args.map some ++ List.replicate (df.nl - df.np) none) with
    | .ok (.rt v) ρ => .ok v (outsOf df ρ)
    | .ok .nx ρ => .ok (.non, 0) (outsOf df ρ)
    | .ok _ _ => .stk
    | .ex e ρ => .ex e (outsOf df ρ)
    | .stk => .stk
  else .stk
/-- a class's call: np counts the parameters without self -/
def runCl (cf : Cf) (df : Df) (args : List Sl) : Cr := if args.length = df.np then
    match exec cf df.body (none :: (args.map some ++ List.replicate (df.nl - df.np - 1) none)) with
    | .ok (.rt v) _ => .ok v (List.replicate df.np none)
    | _ => .stk
  else .stk
def callN (defs : List (Str × Df)) (con : List D) (fuel : Nat) : Nat → Str → List Sl → Cr
  | 0 => fun _ _ => .stk
  | k + 1 => fun f args => match defs.lookup f with
    | some df => if isMk df.body then (match k with
      | 0 => .stk
      | k' + 1 => runCl ⟨callN defs con fuel k', con, fuel⟩ df args) else if rcOk df.rc args then runDf ⟨callN defs con fuel k, con, fuel⟩ df args else .stk
    | none => .stk
end Pi
/-! Pi1: how a datum lies in the abstract heap. -/
namespace Pi
open PySem L2

/-- a list of the written part -/
def KL (K : PySem.W.Frag) (a : Addr) (xs : List V) : Prop :=
  ∃ (o : Obj) (its : Array Value) (n : Nat), K.lookup a = some o ∧ o.cls = .type "list" ∧ o.dict = none ∧ o.data = .seq its n ∧ its.size ≤ sizeLine ∧ Vals xs its.toList

/-- flat data as values -/
def FlatV : D → V → Prop
  | .non, v => v = .non
  | .bl b, v => v = .bl b
  | .int i, v => v = .int i
  | .str s, v => v = .str s
  | _, _ => False
/-- an instance of the class c (a global name of the program) at C with flat fields -/
structure InsOk (K : PySem.W.Frag) (c : Str) (C : Addr) (fs : List (Str × D)) (vs : List (Str × V)) : Prop where
  at_ : PySem.W.nsIn K mainGlobals c = some (some (.ref C))
  cls : Cls K C
  fld : ∀ f d, fs.lookup f = some d → NoAttr K C f ∧ ∃ v, vs.lookup f = some v ∧ FlatV d v
  no : ∀ f, fs.lookup f = none → vs.lookup f = none

section
variable (K : PySem.W.Frag) (H : Hp)
mutual
def Rep : D → Nat → V → List Addr → List Addr → Prop
  | .non, _, v, fp, fz => v = .non ∧ fp = [] ∧ fz = []
  | .bl b, _, v, fp, fz => v = .bl b ∧ fp = [] ∧ fz = []
  | .int i, _, v, fp, fz => v = .int i ∧ fp = [] ∧ fz = []
  | .str s, _, v, fp, fz => v = .str s ∧ fp = [] ∧ fz = []
  | .ty n, _, v, fp, fz => v = .ty n ∧ fp = [] ∧ fz = []
  | .tup l, n, v, fp, fz => ∃ a vs, v = .ref a ∧ H a = some (.tup vs) ∧ RepL l n vs fp fz
  | .ctup l, n, v, fp, fz => ∃ a vs, v = .ref a ∧ SqT K H a vs ∧ RepL l n vs fp fz
  | .lst l, n, v, fp, fz => ∃ a vs f z, v = .ref a ∧ RepL l (n - 1) vs f z ∧
      ((n = 0 ∧ H a = some (.lst vs) ∧ fp = f ∧ fz = a :: z) ∨ (n ≠ 0 ∧ H a = some (.lst vs) ∧ fp = a :: f ∧ fz = z))
  | .dk l, n, v, fp, fz => ∃ a kvs f z, v = .ref a ∧ RepK l (n - 1) kvs f z ∧
      ((n = 0 ∧ Rd H a (.dK kvs) ∧ fp = f ∧ fz = a :: z) ∨ (n ≠ 0 ∧ H a = some (.dK kvs) ∧ fp = a :: f ∧ fz = z))
  | .dt l, n, v, fp, fz => ∃ a kvs f z, v = .ref a ∧ RepT l (n - 1) kvs f z ∧
      ((n = 0 ∧ Rd H a (.dT kvs) ∧ fp = f ∧ fz = a :: z) ∨ (n ≠ 0 ∧ H a = some (.dT kvs) ∧ fp = a :: f ∧ fz = z))
  | .ins c fs, _, v, fp, fz => ∃ a C dx vs, v = .ref a ∧ fp = [] ∧ fz = [a] ∧ H a = some (.ins C dx vs) ∧ InsOk K c C fs vs
  | .scr l, _, v, fp, fz => ∃ a, v = .ref a ∧ fp = [] ∧ ((Rd H a (.lst (l.map .int)) ∧ fz = [a]) ∨ (KL K a (l.map .int) ∧ fz = []))
def RepL : List D → Nat → List V → List Addr → List Addr → Prop
  | [], _, vs, fp, fz => vs = [] ∧ fp = [] ∧ fz = []
  | d :: ds, n, vs, fp, fz => ∃ v vs' f1 f2 z1 z2, vs = v :: vs' ∧ fp = f1 ++ f2 ∧ fz = z1 ++ z2 ∧ Rep d n v f1 z1 ∧ RepL ds n vs' f2 z2
def RepK : List (Key × D) → Nat → List (Key × V) → List Addr → List Addr → Prop
  | [], _, vs, fp, fz => vs = [] ∧ fp = [] ∧ fz = []
  | (k, d) :: ds, n, vs, fp, fz => ∃ v vs' f1 f2 z1 z2, vs = (k, v) :: vs' ∧ fp = f1 ++ f2 ∧ fz = z1 ++ z2 ∧ Rep d n v f1 z1 ∧ RepK ds n vs' f2 z2
def RepT : List (List Key × D) → Nat → List (List Key × V) → List Addr → List Addr → Prop
  | [], _, vs, fp, fz => vs = [] ∧ fp = [] ∧ fz = []
  | (k, d) :: ds, n, vs, fp, fz => ∃ v vs' f1 f2 z1 z2, vs = (k, v) :: vs' ∧ fp = f1 ++ f2 ∧ fz = z1 ++ z2 ∧ Rep d n v f1 z1 ∧ RepT ds n vs' f2 z2
end
end

/-- what is not in W, and what can't be written, stands as before -/
def Stay (W : List Addr) (H H' : Hp) : Prop := ∀ a o, H a = some o → (a ∈ W → ¬ Mut (some o)) → H' a = some o
theorem Stay.refl (W : List Addr) (H : Hp) : Stay W H H := fun _ _ h _ => h
theorem Stay.mono {W W' : List Addr} {H H' : Hp} (s : Stay W H H') (h : ∀ a ∈ W, a ∈ W') : Stay W' H H' := fun a o e n => s a o e fun m => n (h a m)
theorem Stay.some {W : List Addr} {H H' : Hp} (s : Stay W H H') {a : Addr} (h : H' a = none) : H a = none ∨ a ∈ W := by
  by_cases m : a ∈ W
  · exact .inr m
  · cases e : H a with
    | none => exact .inl rfl
    | some o => have := s a o e (fun z => absurd z m); rw [h] at this; cases this
theorem Stay.rd {W : List Addr} {H H' : Hp} (s : Stay W H H') {a : Addr} {u : HO} (r : Rd H a u) (m : a ∉ W) : Rd H' a u := by
  rcases r with r | ⟨o, r⟩
  · exact .inl (s a _ r fun z => absurd z m)
  · exact .inr ⟨o, s a _ r fun z => absurd z m⟩
theorem Stay.sqt {K : PySem.W.Frag} {W : List Addr} {H H' : Hp} (s : Stay W H H') {a : Addr} {xs : List V} (r : SqT K H a xs) : SqT K H' a xs := by
  rcases r with (r | ⟨o, r⟩) | r
  · exact .inl (.inl (s a _ r fun _ => id))
  · exact .inl (.inr ⟨o, s a _ r fun _ => id⟩)
  · exact .inr r

section
variable {K : PySem.W.Frag} {H H' : Hp} {W : List Addr}
mutual
theorem Rep.stay (s : Stay W H H') : ∀ (d : D) (n : Nat) (v : V) (fp fz : List Addr), Rep K H d n v fp fz → (∀ a ∈ fp, a ∉ W) → (∀ a ∈ fz, a ∉ W) → Rep K H' d n v fp fz
  | .non, _, _, _, _, r, _, _ => by simpa only [Rep] using r
  | .bl _, _, _, _, _, r, _, _ => by simpa only [Rep] using r
  | .int _, _, _, _, _, r, _, _ => by simpa only [Rep] using r
  | .str _, _, _, _, _, r, _, _ => by simpa only [Rep] using r
  | .ty _, _, _, _, _, r, _, _ => by simpa only [Rep] using r
  | .tup l, n, v, fp, fz, r, h1, h2 => by
    simp only [Rep] at r ⊢
    obtain ⟨a, vs, e, q, r⟩ := r
    exact ⟨a, vs, e, s a _ q (fun _ => id), RepL.stay s l n vs fp fz r h1 h2⟩
  | .ctup l, n, v, fp, fz, r, h1, h2 => by
    simp only [Rep] at r ⊢
    obtain ⟨a, vs, e, q, r⟩ := r
    exact ⟨a, vs, e, s.sqt q, RepL.stay s l n vs fp fz r h1 h2⟩
  | .lst l, n, v, fp, fz, r, h1, h2 => by
    simp only [Rep] at r ⊢
    obtain ⟨a, vs, f, z, e, r, q⟩ := r
    refine ⟨a, vs, f, z, e, ?_, ?_⟩
    · refine RepL.stay s l (n - 1) vs f z r (fun b hb => h1 b ?_) (fun b hb => h2 b ?_)
      · rcases q with ⟨_, _, e1, _⟩ | ⟨_, _, e1, _⟩ <;> rw [e1]
        · exact hb
        · exact List.mem_cons_of_mem _ hb
      · rcases q with ⟨_, _, _, e1⟩ | ⟨_, _, _, e1⟩ <;> rw [e1]
        · exact List.mem_cons_of_mem _ hb
        · exact hb
    · rcases q with ⟨e0, q, e1, e2⟩ | ⟨e0, q, e1, e2⟩
      · exact .inl ⟨e0, s a _ q (fun m => absurd m (h2 a (by rw [e2]; exact List.mem_cons_self))), e1, e2⟩
      · exact .inr ⟨e0, s a _ q (fun m => absurd m (h1 a (by rw [e1]; exact List.mem_cons_self))), e1, e2⟩
  | .dk l, n, v, fp, fz, r, h1, h2 => by
    simp only [Rep] at r ⊢
    obtain ⟨a, vs, f, z, e, r, q⟩ := r
    refine ⟨a, vs, f, z, e, ?_, ?_⟩
    · refine RepK.stay s l (n - 1) vs f z r (fun b hb => h1 b ?_) (fun b hb => h2 b ?_)
      · rcases q with ⟨_, _, e1, _⟩ | ⟨_, _, e1, _⟩ <;> rw [e1]
        · exact hb
        · exact List.mem_cons_of_mem _ hb
      · rcases q with ⟨_, _, _, e1⟩ | ⟨_, _, _, e1⟩ <;> rw [e1]
        · exact List.mem_cons_of_mem _ hb
        · exact hb
    · rcases q with ⟨e0, q, e1, e2⟩ | ⟨e0, q, e1, e2⟩
      · exact .inl ⟨e0, s.rd q (h2 a (by rw [e2]; exact List.mem_cons_self)), e1, e2⟩
      · exact .inr ⟨e0, s a _ q (fun m => absurd m (h1 a (by rw [e1]; exact List.mem_cons_self))), e1, e2⟩
  | .dt l, n, v, fp, fz, r, h1, h2 => by
    simp only [Rep] at r ⊢
    obtain ⟨a, vs, f, z, e, r, q⟩ := r
    refine ⟨a, vs, f, z, e, ?_, ?_⟩
    · refine RepT.stay s l (n - 1) vs f z r (fun b hb => h1 b ?_) (fun b hb => h2 b ?_)
      · rcases q with ⟨_, _, e1, _⟩ | ⟨_, _, e1, _⟩ <;> rw [e1]
        · exact hb
        · exact List.mem_cons_of_mem _ hb
      · rcases q with ⟨_, _, _, e1⟩ | ⟨_, _, _, e1⟩ <;> rw [e1]
        · exact List.mem_cons_of_mem _ hb
        · exact hb
    · rcases q with ⟨e0, q, e1, e2⟩ | ⟨e0, q, e1, e2⟩
      · exact .inl ⟨e0, s.rd q (h2 a (by rw [e2]; exact List.mem_cons_self)), e1, e2⟩
      · exact .inr ⟨e0, s a _ q (fun m => absurd m (h1 a (by rw [e1]; exact List.mem_cons_self))), e1, e2⟩
  | .ins c fs, n, v, fp, fz, r, h1, h2 => by
    simp only [Rep] at r ⊢
    obtain ⟨a, C, dx, vs, e, e1, e2, q, i⟩ := r
    exact ⟨a, C, dx, vs, e, e1, e2, s a _ q (fun m => absurd m (h2 a (by rw [e2]; exact List.mem_cons_self))), i⟩
  | .scr l, n, v, fp, fz, r, h1, h2 => by
    simp only [Rep] at r ⊢
    obtain ⟨a, e, e1, q⟩ := r
    refine ⟨a, e, e1, ?_⟩
    rcases q with ⟨q, e2⟩ | q
    · exact .inl ⟨s.rd q (h2 a (by rw [e2]; exact List.mem_cons_self)), e2⟩
    · exact .inr q
theorem RepL.stay (s : Stay W H H') : ∀ (ds : List D) (n : Nat) (vs : List V) (fp fz : List Addr), RepL K H ds n vs fp fz → (∀ a ∈ fp, a ∉ W) → (∀ a ∈ fz, a ∉ W) → RepL K H' ds n vs fp fz
  | [], _, _, _, _, r, _, _ => by simpa only [RepL] using r
  | d :: ds, n, vs, fp, fz, r, h1, h2 => by
    simp only [RepL] at r ⊢
    obtain ⟨v, vs', f1, f2, z1, z2, e, e1, e2, r1, r2⟩ := r
    subst e1 e2
    exact ⟨v, vs', f1, f2, z1, z2, e, rfl, rfl, Rep.stay s d n v f1 z1 r1 (fun a m => h1 a (List.mem_append_left _ m)) (fun a m => h2 a (List.mem_append_left _ m)),
      RepL.stay s ds n vs' f2 z2 r2 (fun a m => h1 a (List.mem_append_right _ m)) (fun a m => h2 a (List.mem_append_right _ m))⟩
theorem RepK.stay (s : Stay W H H') : ∀ (ds : List (Key × D)) (n : Nat) (vs : List (Key × V)) (fp fz : List Addr), RepK K H ds n vs fp fz → (∀ a ∈ fp, a ∉ W) → (∀ a ∈ fz, a ∉ W) → RepK K H' ds n vs fp fz
  | [], _, _, _, _, r, _, _ => by simpa only [RepK] using r
  | (k, d) :: ds, n, vs, fp, fz, r, h1, h2 => by
    simp only [RepK] at r ⊢
    obtain ⟨v, vs', f1, f2, z1, z2, e, e1, e2, r1, r2⟩ := r
    subst e1 e2
    exact ⟨v, vs', f1, f2, z1, z2, e, rfl, rfl, Rep.stay s d n v f1 z1 r1 (fun a m => h1 a (List.mem_append_left _ m)) (fun a m => h2 a (List.mem_append_left _ m)),
      RepK.stay s ds n vs' f2 z2 r2 (fun a m => h1 a (List.mem_append_right _ m)) (fun a m => h2 a (List.mem_append_right _ m))⟩
theorem RepT.stay (s : Stay W H H') : ∀ (ds : List (List Key × D)) (n : Nat) (vs : List (List Key × V)) (fp fz : List Addr), RepT K H ds n vs fp fz → (∀ a ∈ fp, a ∉ W) → (∀ a ∈ fz, a ∉ W) → RepT K H' ds n vs fp fz
  | [], _, _, _, _, r, _, _ => by simpa only [RepT] using r
  | (k, d) :: ds, n, vs, fp, fz, r, h1, h2 => by
    simp only [RepT] at r ⊢
    obtain ⟨v, vs', f1, f2, z1, z2, e, e1, e2, r1, r2⟩ := r
    subst e1 e2
    exact ⟨v, vs', f1, f2, z1, z2, e, rfl, rfl, Rep.stay s d n v f1 z1 r1 (fun a m => h1 a (List.mem_append_left _ m)) (fun a m => h2 a (List.mem_append_left _ m)),
      RepT.stay s ds n vs' f2 z2 r2 (fun a m => h1 a (List.mem_append_right _ m)) (fun a m => h2 a (List.mem_append_right _ m))⟩
end
/-! what is told of addresses: they are tracked, the owned ones can be written -/
mutual
theorem Rep.own : ∀ (d : D) (n : Nat) (v : V) (fp fz : List Addr), Rep K H d n v fp fz → (∀ a ∈ fp, ∃ o, H a = some o ∧ Mut (some o)) ∧ (∀ a ∈ fz, ∃ o, H a = some o)
  | .non, _, _, _, _, r => by simp only [Rep] at r; simp [r]
  | .bl _, _, _, _, _, r => by simp only [Rep] at r; simp [r]
  | .int _, _, _, _, _, r => by simp only [Rep] at r; simp [r]
  | .str _, _, _, _, _, r => by simp only [Rep] at r; simp [r]
  | .ty _, _, _, _, _, r => by simp only [Rep] at r; simp [r]
  | .tup l, n, v, fp, fz, r => by
    simp only [Rep] at r
    obtain ⟨a, vs, e, q, r⟩ := r
    exact RepL.own l n vs fp fz r
  | .ctup l, n, v, fp, fz, r => by
    simp only [Rep] at r
    obtain ⟨a, vs, e, q, r⟩ := r
    exact RepL.own l n vs fp fz r
  | .lst l, n, v, fp, fz, r => by
    simp only [Rep] at r
    obtain ⟨a, vs, f, z, e, r, q⟩ := r
    obtain ⟨h1, h2⟩ := RepL.own l (n - 1) vs f z r
    rcases q with ⟨e0, q, e1, e2⟩ | ⟨e0, q, e1, e2⟩ <;> rw [e1, e2]
    · exact ⟨h1, fun b m => (List.mem_cons.mp m).elim (fun e => by rw [e]; exact ⟨_, q⟩) (h2 b)⟩
    · exact ⟨fun b m => (List.mem_cons.mp m).elim (fun e => by rw [e]; exact ⟨_, q, trivial⟩) (h1 b), h2⟩
  | .dk l, n, v, fp, fz, r => by
    simp only [Rep] at r
    obtain ⟨a, vs, f, z, e, r, q⟩ := r
    obtain ⟨h1, h2⟩ := RepK.own l (n - 1) vs f z r
    rcases q with ⟨e0, q, e1, e2⟩ | ⟨e0, q, e1, e2⟩ <;> rw [e1, e2]
    · exact ⟨h1, fun b m => (List.mem_cons.mp m).elim (fun e => by rw [e]; rcases q with q | ⟨o, q⟩ <;> exact ⟨_, q⟩) (h2 b)⟩
    · exact ⟨fun b m => (List.mem_cons.mp m).elim (fun e => by rw [e]; exact ⟨_, q, trivial⟩) (h1 b), h2⟩
  | .dt l, n, v, fp, fz, r => by
    simp only [Rep] at r
    obtain ⟨a, vs, f, z, e, r, q⟩ := r
    obtain ⟨h1, h2⟩ := RepT.own l (n - 1) vs f z r
    rcases q with ⟨e0, q, e1, e2⟩ | ⟨e0, q, e1, e2⟩ <;> rw [e1, e2]
    · exact ⟨h1, fun b m => (List.mem_cons.mp m).elim (fun e => by rw [e]; rcases q with q | ⟨o, q⟩ <;> exact ⟨_, q⟩) (h2 b)⟩
    · exact ⟨fun b m => (List.mem_cons.mp m).elim (fun e => by rw [e]; exact ⟨_, q, trivial⟩) (h1 b), h2⟩
  | .ins c fs, n, v, fp, fz, r => by
    simp only [Rep] at r
    obtain ⟨a, C, dx, vs, e, e1, e2, q, i⟩ := r
    rw [e1, e2]
    exact ⟨fun _ m => absurd m List.not_mem_nil, fun b m => by rw [List.mem_singleton.mp m]; exact ⟨_, q⟩⟩
  | .scr l, n, v, fp, fz, r => by
    simp only [Rep] at r
    obtain ⟨a, e, e1, q⟩ := r
    rw [e1]
    refine And.intro (fun _ m => absurd m List.not_mem_nil) (fun b m => ?_)
    rcases q with ⟨q, e2⟩ | ⟨_, e2⟩
    · rw [e2] at m
      obtain rfl := List.mem_singleton.mp m
      rcases q with q | ⟨o, q⟩ <;> exact ⟨_, q⟩
    · rw [e2] at m; exact nomatch m
theorem RepL.own : ∀ (ds : List D) (n : Nat) (vs : List V) (fp fz : List Addr), RepL K H ds n vs fp fz → (∀ a ∈ fp, ∃ o, H a = some o ∧ Mut (some o)) ∧ (∀ a ∈ fz, ∃ o, H a = some o)
  | [], _, _, _, _, r => by simp only [RepL] at r; simp [r]
  | d :: ds, n, vs, fp, fz, r => by
    simp only [RepL] at r
    obtain ⟨v, vs', f1, f2, z1, z2, e, e1, e2, r1, r2⟩ := r
    subst e1 e2
    have h1 := Rep.own d n v f1 z1 r1
    have h2 := RepL.own ds n vs' f2 z2 r2
    exact ⟨fun a m => (List.mem_append.mp m).elim (h1.1 a) (h2.1 a), fun a m => (List.mem_append.mp m).elim (h1.2 a) (h2.2 a)⟩
theorem RepK.own : ∀ (ds : List (Key × D)) (n : Nat) (vs : List (Key × V)) (fp fz : List Addr), RepK K H ds n vs fp fz → (∀ a ∈ fp, ∃ o, H a = some o ∧ Mut (some o)) ∧ (∀ a ∈ fz, ∃ o, H a = some o)
  | [], _, _, _, _, r => by simp only [RepK] at r; simp [r]
  | (k, d) :: ds, n, vs, fp, fz, r => by
    simp only [RepK] at r
    obtain ⟨v, vs', f1, f2, z1, z2, e, e1, e2, r1, r2⟩ := r
    subst e1 e2
    have h1 := Rep.own d n v f1 z1 r1
    have h2 := RepK.own ds n vs' f2 z2 r2
    exact ⟨fun a m => (List.mem_append.mp m).elim (h1.1 a) (h2.1 a), fun a m => (List.mem_append.mp m).elim (h1.2 a) (h2.2 a)⟩
theorem RepT.own : ∀ (ds : List (List Key × D)) (n : Nat) (vs : List (List Key × V)) (fp fz : List Addr), RepT K H ds n vs fp fz → (∀ a ∈ fp, ∃ o, H a = some o ∧ Mut (some o)) ∧ (∀ a ∈ fz, ∃ o, H a = some o)
  | [], _, _, _, _, r => by simp only [RepT] at r; simp [r]
  | (k, d) :: ds, n, vs, fp, fz, r => by
    simp only [RepT] at r
    obtain ⟨v, vs', f1, f2, z1, z2, e, e1, e2, r1, r2⟩ := r
    subst e1 e2
    have h1 := Rep.own d n v f1 z1 r1
    have h2 := RepT.own ds n vs' f2 z2 r2
    exact ⟨fun a m => (List.mem_append.mp m).elim (h1.1 a) (h2.1 a), fun a m => (List.mem_append.mp m).elim (h1.2 a) (h2.2 a)⟩
end
end
end Pi
/-! Pi2: owned less deep; slots. -/
namespace Pi
open PySem L2

def Disj (fp fz : List Addr) : Prop := fp.Nodup ∧ ∀ a ∈ fp, a ∉ fz
theorem Disj.of {fp fz fp' fz' : List Addr} (d : Disj fp fz) (p : fp.Perm fp') (s : ∀ a ∈ fz', a ∈ fz) : Disj fp' fz' :=
  ⟨p.nodup d.1, fun a m z => d.2 a (p.mem_iff.mpr m) (s a z)⟩
theorem Disj.part {fp fz f1 f2 fz' : List Addr} (d : Disj fp fz) (p : fp.Perm (f1 ++ f2)) (s : ∀ a ∈ fz', a ∈ fz ∨ a ∈ f2) : Disj f1 fz' := by
  have n := p.nodup d.1
  have n' := List.nodup_append.mp n
  refine ⟨n'.1, fun a m z => ?_⟩
  rcases s a z with s | s
  · exact d.2 a (p.mem_iff.mpr (List.mem_append_left _ m)) s
  · exact n'.2.2 a m a s rfl

section
variable {K : PySem.W.Frag} {H H' : Hp} {W : List Addr}
mutual
/-- frozen: nothing is owned -/
theorem Rep.zero : ∀ (d : D) (v : V) (fp fz : List Addr), Rep K H d 0 v fp fz → fp = []
  | .non, _, _, _, r => by simp only [Rep] at r; simp [r]
  | .bl _, _, _, _, r => by simp only [Rep] at r; simp [r]
  | .int _, _, _, _, r => by simp only [Rep] at r; simp [r]
  | .str _, _, _, _, r => by simp only [Rep] at r; simp [r]
  | .ty _, _, _, _, r => by simp only [Rep] at r; simp [r]
  | .tup l, v, fp, fz, r => by
    simp only [Rep] at r
    obtain ⟨a, vs, e, q, r⟩ := r
    exact RepL.zero l vs fp fz r
  | .ctup l, v, fp, fz, r => by
    simp only [Rep] at r
    obtain ⟨a, vs, e, q, r⟩ := r
    exact RepL.zero l vs fp fz r
  | .lst l, v, fp, fz, r => by
    simp only [Rep] at r
    obtain ⟨a, vs, f, z, e, r, q⟩ := r
    have := RepL.zero l vs f z r
    rcases q with ⟨e0, q, e1, e2⟩ | ⟨e0, q, e1, e2⟩
    · rw [e1, this]
    · exact absurd rfl e0
  | .dk l, v, fp, fz, r => by
    simp only [Rep] at r
    obtain ⟨a, vs, f, z, e, r, q⟩ := r
    have := RepK.zero l vs f z r
    rcases q with ⟨e0, q, e1, e2⟩ | ⟨e0, q, e1, e2⟩
    · rw [e1, this]
    · exact absurd rfl e0
  | .dt l, v, fp, fz, r => by
    simp only [Rep] at r
    obtain ⟨a, vs, f, z, e, r, q⟩ := r
    have := RepT.zero l vs f z r
    rcases q with ⟨e0, q, e1, e2⟩ | ⟨e0, q, e1, e2⟩
    · rw [e1, this]
    · exact absurd rfl e0
  | .ins _ _, _, _, _, r => by
    simp only [Rep] at r
    obtain ⟨a, C, dx, vs, e, e1, e2, q, i⟩ := r
    exact e1
  | .scr _, _, _, _, r => by
    simp only [Rep] at r
    obtain ⟨a, e, e1, q⟩ := r
    exact e1
theorem RepL.zero : ∀ (ds : List D) (vs : List V) (fp fz : List Addr), RepL K H ds 0 vs fp fz → fp = []
  | [], _, _, _, r => by simp only [RepL] at r; simp [r]
  | d :: ds, vs, fp, fz, r => by
    simp only [RepL] at r
    obtain ⟨v, vs', f1, f2, z1, z2, e, e1, e2, r1, r2⟩ := r
    rw [e1, Rep.zero d v f1 z1 r1, RepL.zero ds vs' f2 z2 r2]; rfl
theorem RepK.zero : ∀ (ds : List (Key × D)) (vs : List (Key × V)) (fp fz : List Addr), RepK K H ds 0 vs fp fz → fp = []
  | [], _, _, _, r => by simp only [RepK] at r; simp [r]
  | (k, d) :: ds, vs, fp, fz, r => by
    simp only [RepK] at r
    obtain ⟨v, vs', f1, f2, z1, z2, e, e1, e2, r1, r2⟩ := r
    rw [e1, Rep.zero d v f1 z1 r1, RepK.zero ds vs' f2 z2 r2]; rfl
theorem RepT.zero : ∀ (ds : List (List Key × D)) (vs : List (List Key × V)) (fp fz : List Addr), RepT K H ds 0 vs fp fz → fp = []
  | [], _, _, _, r => by simp only [RepT] at r; simp [r]
  | (k, d) :: ds, vs, fp, fz, r => by
    simp only [RepT] at r
    obtain ⟨v, vs', f1, f2, z1, z2, e, e1, e2, r1, r2⟩ := r
    rw [e1, Rep.zero d v f1 z1 r1, RepT.zero ds vs' f2 z2 r2]; rfl
end
/-- what an owned thing is to a lesser depth: some of its addresses are frozen -/
def Less (fp fz fp' fz' : List Addr) : Prop := ∃ mv, (fp' ++ mv).Perm fp ∧ ∀ a ∈ fz', a ∈ fz ∨ a ∈ mv
theorem Less.refl (fp fz : List Addr) : Less fp fz fp fz := ⟨[], by simp, fun a m => .inl m⟩
theorem Less.app {f1 z1 f1' z1' f2 z2 f2' z2' : List Addr} (a : Less f1 z1 f1' z1') (b : Less f2 z2 f2' z2') : Less (f1 ++ f2) (z1 ++ z2) (f1' ++ f2') (z1' ++ z2') := by
  obtain ⟨m1, p1, s1⟩ := a
  obtain ⟨m2, p2, s2⟩ := b
  refine ⟨m1 ++ m2, ?_, fun x m => ?_⟩
  · refine List.Perm.trans ?_ (p1.append p2)
    rw [List.append_assoc, List.append_assoc]
    refine List.Perm.append_left _ ?_
    rw [← List.append_assoc, ← List.append_assoc]
    exact List.Perm.append_right _ List.perm_append_comm
  · rcases List.mem_append.mp m with m | m
    · rcases s1 x m with h | h
      · exact .inl (List.mem_append_left _ h)
      · exact .inr (List.mem_append_left _ h)
    · rcases s2 x m with h | h
      · exact .inl (List.mem_append_right _ h)
      · exact .inr (List.mem_append_right _ h)
theorem Less.disj {fp fz fp' fz' : List Addr} (l : Less fp fz fp' fz') (d : Disj fp fz) : Disj fp' fz' := by
  obtain ⟨mv, p, s⟩ := l
  exact d.part p.symm s
theorem Less.fp {fp fz fp' fz' : List Addr} (l : Less fp fz fp' fz') : ∀ a ∈ fp', a ∈ fp := by
  obtain ⟨mv, p, s⟩ := l
  exact fun a m => p.mem_iff.mp (List.mem_append_left _ m)
theorem Less.fz {fp fz fp' fz' : List Addr} (l : Less fp fz fp' fz') : ∀ a ∈ fz', a ∈ fz ∨ a ∈ fp := by
  obtain ⟨mv, p, s⟩ := l
  exact fun a m => (s a m).imp id fun h => p.mem_iff.mp (List.mem_append_right _ h)
/-- the head owned no more, the rest less -/
theorem Less.hd {a : Addr} {fp fz fp' fz' : List Addr} (l : Less fp fz fp' fz') : Less (a :: fp) fz fp' (a :: fz') := by
  obtain ⟨mv, p, s⟩ := l
  refine ⟨a :: mv, ?_, fun x m => ?_⟩
  · exact List.Perm.trans List.perm_middle (List.Perm.cons a p)
  · rcases List.mem_cons.mp m with rfl | m
    · exact .inr List.mem_cons_self
    · exact (s x m).imp id fun h => List.mem_cons_of_mem _ h
theorem Less.hd2 {a : Addr} {fp fz fp' fz' : List Addr} (l : Less fp fz fp' fz') : Less (a :: fp) fz (a :: fp') fz' := by
  obtain ⟨mv, p, s⟩ := l
  exact ⟨mv, List.Perm.cons a p, s⟩
theorem Less.hz {a : Addr} {fp fz fp' fz' : List Addr} (l : Less fp fz fp' fz') : Less fp (a :: fz) fp' (a :: fz') := by
  obtain ⟨mv, p, s⟩ := l
  refine ⟨mv, p, fun x m => ?_⟩
  rcases List.mem_cons.mp m with rfl | m
  · exact .inl List.mem_cons_self
  · exact (s x m).imp (fun h => List.mem_cons_of_mem _ h) id
mutual
theorem Rep.less : ∀ (d : D) (n m : Nat) (v : V) (fp fz : List Addr), m ≤ n → Rep K H d n v fp fz → ∃ fp' fz', Rep K H d m v fp' fz' ∧ Less fp fz fp' fz'
  | .non, _, _, _, fp, fz, _, r => ⟨fp, fz, by simpa only [Rep] using r, .refl _ _⟩
  | .bl _, _, _, _, fp, fz, _, r => ⟨fp, fz, by simpa only [Rep] using r, .refl _ _⟩
  | .int _, _, _, _, fp, fz, _, r => ⟨fp, fz, by simpa only [Rep] using r, .refl _ _⟩
  | .str _, _, _, _, fp, fz, _, r => ⟨fp, fz, by simpa only [Rep] using r, .refl _ _⟩
  | .ty _, _, _, _, fp, fz, _, r => ⟨fp, fz, by simpa only [Rep] using r, .refl _ _⟩
  | .tup l, n, m, v, fp, fz, h, r => by
    simp only [Rep] at r ⊢
    obtain ⟨a, vs, e, q, r⟩ := r
    obtain ⟨f', z', r', ls⟩ := RepL.less l n m vs fp fz h r
    exact ⟨f', z', ⟨a, vs, e, q, r'⟩, ls⟩
  | .ctup l, n, m, v, fp, fz, h, r => by
    simp only [Rep] at r ⊢
    obtain ⟨a, vs, e, q, r⟩ := r
    obtain ⟨f', z', r', ls⟩ := RepL.less l n m vs fp fz h r
    exact ⟨f', z', ⟨a, vs, e, q, r'⟩, ls⟩
  | .lst l, n, m, v, fp, fz, h, r => by
    simp only [Rep] at r ⊢
    obtain ⟨a, vs, f, z, e, r, q⟩ := r
    obtain ⟨f', z', r', ls⟩ := RepL.less l (n - 1) (m - 1) vs f z (by omega) r
    rcases q with ⟨e0, q, e1, e2⟩ | ⟨e0, q, e1, e2⟩
    · exact ⟨f', a :: z', ⟨a, vs, f', z', e, r', .inl ⟨by omega, q, rfl, rfl⟩⟩, by rw [e1, e2]; exact ls.hz⟩
    · by_cases hm : m = 0
      · exact ⟨f', a :: z', ⟨a, vs, f', z', e, r', .inl ⟨hm, q, rfl, rfl⟩⟩, by rw [e1, e2]; exact ls.hd⟩
      · exact ⟨a :: f', z', ⟨a, vs, f', z', e, r', .inr ⟨hm, q, rfl, rfl⟩⟩, by rw [e1, e2]; exact ls.hd2⟩
  | .dk l, n, m, v, fp, fz, h, r => by
    simp only [Rep] at r ⊢
    obtain ⟨a, vs, f, z, e, r, q⟩ := r
    obtain ⟨f', z', r', ls⟩ := RepK.less l (n - 1) (m - 1) vs f z (by omega) r
    rcases q with ⟨e0, q, e1, e2⟩ | ⟨e0, q, e1, e2⟩
    · exact ⟨f', a :: z', ⟨a, vs, f', z', e, r', .inl ⟨by omega, q, rfl, rfl⟩⟩, by rw [e1, e2]; exact ls.hz⟩
    · by_cases hm : m = 0
      · exact ⟨f', a :: z', ⟨a, vs, f', z', e, r', .inl ⟨hm, .inl q, rfl, rfl⟩⟩, by rw [e1, e2]; exact ls.hd⟩
      · exact ⟨a :: f', z', ⟨a, vs, f', z', e, r', .inr ⟨hm, q, rfl, rfl⟩⟩, by rw [e1, e2]; exact ls.hd2⟩
  | .dt l, n, m, v, fp, fz, h, r => by
    simp only [Rep] at r ⊢
    obtain ⟨a, vs, f, z, e, r, q⟩ := r
    obtain ⟨f', z', r', ls⟩ := RepT.less l (n - 1) (m - 1) vs f z (by omega) r
    rcases q with ⟨e0, q, e1, e2⟩ | ⟨e0, q, e1, e2⟩
    · exact ⟨f', a :: z', ⟨a, vs, f', z', e, r', .inl ⟨by omega, q, rfl, rfl⟩⟩, by rw [e1, e2]; exact ls.hz⟩
    · by_cases hm : m = 0
      · exact ⟨f', a :: z', ⟨a, vs, f', z', e, r', .inl ⟨hm, .inl q, rfl, rfl⟩⟩, by rw [e1, e2]; exact ls.hd⟩
      · exact ⟨a :: f', z', ⟨a, vs, f', z', e, r', .inr ⟨hm, q, rfl, rfl⟩⟩, by rw [e1, e2]; exact ls.hd2⟩
  | .ins _ _, _, _, _, fp, fz, _, r => ⟨fp, fz, by simpa only [Rep] using r, .refl _ _⟩
  | .scr _, _, _, _, fp, fz, _, r => ⟨fp, fz, by simpa only [Rep] using r, .refl _ _⟩
theorem RepL.less : ∀ (ds : List D) (n m : Nat) (vs : List V) (fp fz : List Addr), m ≤ n → RepL K H ds n vs fp fz → ∃ fp' fz', RepL K H ds m vs fp' fz' ∧ Less fp fz fp' fz'
  | [], _, _, _, fp, fz, _, r => ⟨fp, fz, by simpa only [RepL] using r, .refl _ _⟩
  | d :: ds, n, m, vs, fp, fz, h, r => by
    simp only [RepL] at r ⊢
    obtain ⟨v, vs', f1, f2, z1, z2, e, e1, e2, r1, r2⟩ := r
    obtain ⟨f1', z1', r1', l1⟩ := Rep.less d n m v f1 z1 h r1
    obtain ⟨f2', z2', r2', l2⟩ := RepL.less ds n m vs' f2 z2 h r2
    subst e1 e2
    exact ⟨f1' ++ f2', z1' ++ z2', ⟨v, vs', f1', f2', z1', z2', e, rfl, rfl, r1', r2'⟩, l1.app l2⟩
theorem RepK.less : ∀ (ds : List (Key × D)) (n m : Nat) (vs : List (Key × V)) (fp fz : List Addr), m ≤ n → RepK K H ds n vs fp fz → ∃ fp' fz', RepK K H ds m vs fp' fz' ∧ Less fp fz fp' fz'
  | [], _, _, _, fp, fz, _, r => ⟨fp, fz, by simpa only [RepK] using r, .refl _ _⟩
  | (k, d) :: ds, n, m, vs, fp, fz, h, r => by
    simp only [RepK] at r ⊢
    obtain ⟨v, vs', f1, f2, z1, z2, e, e1, e2, r1, r2⟩ := r
    obtain ⟨f1', z1', r1', l1⟩ := Rep.less d n m v f1 z1 h r1
    obtain ⟨f2', z2', r2', l2⟩ := RepK.less ds n m vs' f2 z2 h r2
    subst e1 e2
    exact ⟨f1' ++ f2', z1' ++ z2', ⟨v, vs', f1', f2', z1', z2', e, rfl, rfl, r1', r2'⟩, l1.app l2⟩
theorem RepT.less : ∀ (ds : List (List Key × D)) (n m : Nat) (vs : List (List Key × V)) (fp fz : List Addr), m ≤ n → RepT K H ds n vs fp fz → ∃ fp' fz', RepT K H ds m vs fp' fz' ∧ Less fp fz fp' fz'
  | [], _, _, _, fp, fz, _, r => ⟨fp, fz, by simpa only [RepT] using r, .refl _ _⟩
  | (k, d) :: ds, n, m, vs, fp, fz, h, r => by
    simp only [RepT] at r ⊢
    obtain ⟨v, vs', f1, f2, z1, z2, e, e1, e2, r1, r2⟩ := r
    obtain ⟨f1', z1', r1', l1⟩ := Rep.less d n m v f1 z1 h r1
    obtain ⟨f2', z2', r2', l2⟩ := RepT.less ds n m vs' f2 z2 h r2
    subst e1 e2
    exact ⟨f1' ++ f2', z1' ++ z2', ⟨v, vs', f1', f2', z1', z2', e, rfl, rfl, r1', r2'⟩, l1.app l2⟩
end
mutual
theorem Rep.imm : ∀ (d : D) (n m : Nat) (v : V) (fp fz : List Addr), imm d = true → Rep K H d n v fp fz → fp = [] ∧ fz = [] ∧ Rep K H d m v [] []
  | .non, _, _, _, fp, fz, _, r => by simp only [Rep] at r ⊢; simp [r]
  | .bl _, _, _, _, fp, fz, _, r => by simp only [Rep] at r ⊢; simp [r]
  | .int _, _, _, _, fp, fz, _, r => by simp only [Rep] at r ⊢; simp [r]
  | .str _, _, _, _, fp, fz, _, r => by simp only [Rep] at r ⊢; simp [r]
  | .ty _, _, _, _, fp, fz, _, r => by simp only [Rep] at r ⊢; simp [r]
  | .tup l, n, m, v, fp, fz, h, r => by
    simp only [Rep] at r ⊢
    obtain ⟨a, vs, e, q, r⟩ := r
    obtain ⟨h1, h2, r'⟩ := RepL.imm l n m vs fp fz (by simpa only [Pi.imm] using h) r
    exact ⟨h1, h2, a, vs, e, q, r'⟩
  | .ctup l, n, m, v, fp, fz, h, r => by
    simp only [Rep] at r ⊢
    obtain ⟨a, vs, e, q, r⟩ := r
    obtain ⟨h1, h2, r'⟩ := RepL.imm l n m vs fp fz (by simpa only [Pi.imm] using h) r
    exact ⟨h1, h2, a, vs, e, q, r'⟩
  | .lst _, _, _, _, _, _, h, _ => by simp [Pi.imm] at h
  | .dk _, _, _, _, _, _, h, _ => by simp [Pi.imm] at h
  | .dt _, _, _, _, _, _, h, _ => by simp [Pi.imm] at h
  | .ins _ _, _, _, _, _, _, h, _ => by simp [Pi.imm] at h
  | .scr _, _, _, _, _, _, h, _ => by simp [Pi.imm] at h
theorem RepL.imm : ∀ (ds : List D) (n m : Nat) (vs : List V) (fp fz : List Addr), immL ds = true → RepL K H ds n vs fp fz → fp = [] ∧ fz = [] ∧ RepL K H ds m vs [] []
  | [], _, _, _, fp, fz, _, r => by simp only [RepL] at r ⊢; simp [r]
  | d :: ds, n, m, vs, fp, fz, h, r => by
    simp only [immL, Bool.and_eq_true] at h
    simp only [RepL] at r ⊢
    obtain ⟨v, vs', f1, f2, z1, z2, e, e1, e2, r1, r2⟩ := r
    obtain ⟨a1, b1, c1⟩ := Rep.imm d n m v f1 z1 h.1 r1
    obtain ⟨a2, b2, c2⟩ := RepL.imm ds n m vs' f2 z2 h.2 r2
    subst e1 e2 a1 b1 a2 b2
    exact ⟨rfl, rfl, v, vs', [], [], [], [], e, rfl, rfl, c1, c2⟩
end
mutual
theorem Rep.nofz : ∀ (d : D) (n : Nat) (v : V) (fp fz : List Addr), nofz n d = true → Rep K H d n v fp fz → fz = []
  | .non, _, _, fp, fz, _, r => by simp only [Rep] at r; simp [r]
  | .bl _, _, _, fp, fz, _, r => by simp only [Rep] at r; simp [r]
  | .int _, _, _, fp, fz, _, r => by simp only [Rep] at r; simp [r]
  | .str _, _, _, fp, fz, _, r => by simp only [Rep] at r; simp [r]
  | .ty _, _, _, fp, fz, _, r => by simp only [Rep] at r; simp [r]
  | .tup l, n, v, fp, fz, h, r => by
    simp only [Rep] at r
    obtain ⟨a, vs, e, q, r⟩ := r
    exact RepL.nofz l n vs fp fz (by simpa only [Pi.nofz] using h) r
  | .ctup l, n, v, fp, fz, h, r => by
    simp only [Rep] at r
    obtain ⟨a, vs, e, q, r⟩ := r
    exact RepL.nofz l n vs fp fz (by simpa only [Pi.nofz] using h) r
  | .lst l, n, v, fp, fz, h, r => by
    simp only [Pi.nofz, Bool.and_eq_true, bne_iff_ne] at h
    simp only [Rep] at r
    obtain ⟨a, vs, f, z, e, r, q⟩ := r
    have := RepL.nofz l (n - 1) vs f z h.2 r
    rcases q with ⟨e0, q, e1, e2⟩ | ⟨e0, q, e1, e2⟩
    · exact absurd e0 h.1
    · rw [e2, this]
  | .dk l, n, v, fp, fz, h, r => by
    simp only [Pi.nofz, Bool.and_eq_true, bne_iff_ne] at h
    simp only [Rep] at r
    obtain ⟨a, vs, f, z, e, r, q⟩ := r
    have := RepK.nofz l (n - 1) vs f z h.2 r
    rcases q with ⟨e0, q, e1, e2⟩ | ⟨e0, q, e1, e2⟩
    · exact absurd e0 h.1
    · rw [e2, this]
  | .dt l, n, v, fp, fz, h, r => by
    simp only [Pi.nofz, Bool.and_eq_true, bne_iff_ne] at h
    simp only [Rep] at r
    obtain ⟨a, vs, f, z, e, r, q⟩ := r
    have := RepT.nofz l (n - 1) vs f z h.2 r
    rcases q with ⟨e0, q, e1, e2⟩ | ⟨e0, q, e1, e2⟩
    · exact absurd e0 h.1
    · rw [e2, this]
  | .ins _ _, _, _, _, _, h, _ => by simp [Pi.nofz] at h
  | .scr _, _, _, _, _, h, _ => by simp [Pi.nofz] at h
theorem RepL.nofz : ∀ (ds : List D) (n : Nat) (vs : List V) (fp fz : List Addr), nofzL n ds = true → RepL K H ds n vs fp fz → fz = []
  | [], _, _, fp, fz, _, r => by simp only [RepL] at r; simp [r]
  | d :: ds, n, vs, fp, fz, h, r => by
    simp only [nofzL, Bool.and_eq_true] at h
    simp only [RepL] at r
    obtain ⟨v, vs', f1, f2, z1, z2, e, e1, e2, r1, r2⟩ := r
    rw [e2, Rep.nofz d n v f1 z1 h.1 r1, RepL.nofz ds n vs' f2 z2 h.2 r2]; rfl
theorem RepK.nofz : ∀ (ds : List (Key × D)) (n : Nat) (vs : List (Key × V)) (fp fz : List Addr), nofzK n ds = true → RepK K H ds n vs fp fz → fz = []
  | [], _, _, fp, fz, _, r => by simp only [RepK] at r; simp [r]
  | (k, d) :: ds, n, vs, fp, fz, h, r => by
    simp only [nofzK, Bool.and_eq_true] at h
    simp only [RepK] at r
    obtain ⟨v, vs', f1, f2, z1, z2, e, e1, e2, r1, r2⟩ := r
    rw [e2, Rep.nofz d n v f1 z1 h.1 r1, RepK.nofz ds n vs' f2 z2 h.2 r2]; rfl
theorem RepT.nofz : ∀ (ds : List (List Key × D)) (n : Nat) (vs : List (List Key × V)) (fp fz : List Addr), nofzT n ds = true → RepT K H ds n vs fp fz → fz = []
  | [], _, _, fp, fz, _, r => by simp only [RepT] at r; simp [r]
  | (k, d) :: ds, n, vs, fp, fz, h, r => by
    simp only [nofzT, Bool.and_eq_true] at h
    simp only [RepT] at r
    obtain ⟨v, vs', f1, f2, z1, z2, e, e1, e2, r1, r2⟩ := r
    rw [e2, Rep.nofz d n v f1 z1 h.1 r1, RepT.nofz ds n vs' f2 z2 h.2 r2]; rfl
end
theorem Rep.hasd {d : D} {n k : Nat} {v : V} {fp fz : List Addr} (h : hasd k (d, n) = true) (r : Rep K H d n v fp fz) : ∃ fp' fz', Rep K H d k v fp' fz' ∧ Less fp fz fp' fz' := by
  simp only [Pi.hasd, Bool.or_eq_true, decide_eq_true_eq] at h
  rcases h with h | h
  · exact Rep.less d n k v fp fz h r
  · obtain ⟨e1, e2, r'⟩ := Rep.imm d n k v fp fz h r
    subst e1 e2
    exact ⟨[], [], r', .refl _ _⟩
/-- frozen -/
theorem Rep.frz {d : D} {n : Nat} {v : V} {fp fz : List Addr} (r : Rep K H d n v fp fz) : ∃ fz', Rep K H d 0 v [] fz' ∧ Less fp fz [] fz' := by
  obtain ⟨fp', fz', r', l⟩ := Rep.less d n 0 v fp fz (Nat.zero_le _) r
  have := Rep.zero d v fp' fz' r'
  subst this
  exact ⟨fz', r', l⟩

/-! ### slots -/
def SL (K : PySem.W.Frag) (H : Hp) : St → Env → List Addr → List Addr → Prop
  | [], [], fp, fz => fp = [] ∧ fz = []
  | _ :: σ, none :: ρ, fp, fz => SL K H σ ρ fp fz
  | s :: σ, some (d, n) :: ρ, fp, fz => ∃ v f1 f2 z1 z2, s = some v ∧ fp = f1 ++ f2 ∧ fz = z1 ++ z2 ∧ Rep K H d n v f1 z1 ∧ SL K H σ ρ f2 z2
  | _, _, _, _ => False
theorem SL.stay (s : Stay W H H') : ∀ {σ : St} {ρ : Env} {fp fz : List Addr}, SL K H σ ρ fp fz → (∀ a ∈ fp, a ∉ W) → (∀ a ∈ fz, a ∉ W) → SL K H' σ ρ fp fz
  | [], [], _, _, r, _, _ => r
  | _ :: σ, none :: ρ, fp, fz, r, h1, h2 => SL.stay s (σ := σ) (ρ := ρ) r h1 h2
  | x :: σ, some (d, n) :: ρ, fp, fz, r, h1, h2 => by
    obtain ⟨v, f1, f2, z1, z2, e, e1, e2, r1, r2⟩ := r
    subst e1 e2
    exact ⟨v, f1, f2, z1, z2, e, rfl, rfl, Rep.stay s d n v f1 z1 r1 (fun a m => h1 a (List.mem_append_left _ m)) (fun a m => h2 a (List.mem_append_left _ m)),
      SL.stay s (σ := σ) (ρ := ρ) r2 (fun a m => h1 a (List.mem_append_right _ m)) (fun a m => h2 a (List.mem_append_right _ m))⟩
  | [], _ :: _, _, _, r, _, _ => False.elim r
  | _ :: _, [], _, _, r, _, _ => False.elim r
theorem SL.own : ∀ {σ : St} {ρ : Env} {fp fz : List Addr}, SL K H σ ρ fp fz → (∀ a ∈ fp, ∃ o, H a = some o ∧ Mut (some o)) ∧ (∀ a ∈ fz, ∃ o, H a = some o)
  | [], [], _, _, r => by obtain ⟨rfl, rfl⟩ := r; simp
  | _ :: σ, none :: ρ, fp, fz, r => SL.own (σ := σ) (ρ := ρ) r
  | x :: σ, some (d, n) :: ρ, fp, fz, r => by
    obtain ⟨v, f1, f2, z1, z2, e, e1, e2, r1, r2⟩ := r
    subst e1 e2
    have h1 := Rep.own d n v f1 z1 r1
    have h2 := SL.own (σ := σ) (ρ := ρ) r2
    exact ⟨fun a m => (List.mem_append.mp m).elim (h1.1 a) (h2.1 a), fun a m => (List.mem_append.mp m).elim (h1.2 a) (h2.2 a)⟩
  | [], _ :: _, _, _, r => False.elim r
  | _ :: _, [], _, _, r => False.elim r
theorem SL.len : ∀ {σ : St} {ρ : Env} {fp fz : List Addr}, SL K H σ ρ fp fz → σ.length = ρ.length
  | [], [], _, _, _ => rfl
  | _ :: σ, none :: ρ, fp, fz, r => by simp [SL.len (σ := σ) (ρ := ρ) r]
  | x :: σ, some (d, n) :: ρ, fp, fz, r => by
    obtain ⟨v, f1, f2, z1, z2, e, e1, e2, r1, r2⟩ := r
    simp [SL.len (σ := σ) (ρ := ρ) r2]
  | [], _ :: _, _, _, r => False.elim r
  | _ :: _, [], _, _, r => False.elim r
/-- a slot is taken out -/
theorem SL.take : ∀ {σ : St} {ρ : Env} {fp fz : List Addr} {i : Nat} {d : D} {n : Nat}, SL K H σ ρ fp fz → gt ρ i = some (d, n) →
    ∃ v f1 f2 z1 z2, σ[i]? = some (some v) ∧ Rep K H d n v f1 z1 ∧ SL K H σ (st ρ i none) f2 z2 ∧ (f1 ++ f2).Perm fp ∧ (z1 ++ z2).Perm fz
  | [], [], _, _, _, _, _, _, g => by simp [gt] at g
  | s :: σ, none :: ρ, fp, fz, 0, d, n, r, g => by simp [gt] at g
  | s :: σ, some (d, n) :: ρ, fp, fz, 0, d', n', r, g => by
    simp only [gt, Option.some.injEq, Prod.mk.injEq] at g
    obtain ⟨rfl, rfl⟩ := g
    obtain ⟨v, f1, f2, z1, z2, e, e1, e2, r1, r2⟩ := r
    exact ⟨v, f1, f2, z1, z2, by simp [e], r1, r2, by rw [e1], by rw [e2]⟩
  | s :: σ, none :: ρ, fp, fz, i + 1, d, n, r, g => by
    obtain ⟨v, f1, f2, z1, z2, a, b, c, p, q⟩ := SL.take (σ := σ) (ρ := ρ) r g
    exact ⟨v, f1, f2, z1, z2, by simpa using a, b, c, p, q⟩
  | s :: σ, some (d', n') :: ρ, fp, fz, i + 1, d, n, r, g => by
    obtain ⟨w, g1, g2, y1, y2, e, e1, e2, r1, r2⟩ := r
    obtain ⟨v, f1, f2, z1, z2, a, b, c, p, q⟩ := SL.take (σ := σ) (ρ := ρ) r2 g
    refine ⟨v, f1, g1 ++ f2, z1, y1 ++ z2, by simpa using a, b, ⟨w, g1, f2, y1, z2, e, rfl, rfl, r1, c⟩, ?_, ?_⟩
    · rw [e1]
      exact List.Perm.trans (by rw [← List.append_assoc, ← List.append_assoc]; exact List.Perm.append_right _ List.perm_append_comm) (List.Perm.append_left g1 p)
    · rw [e2]
      exact List.Perm.trans (by rw [← List.append_assoc, ← List.append_assoc]; exact List.Perm.append_right _ List.perm_append_comm) (List.Perm.append_left y1 q)
  | [], _ :: _, _, _, _, _, _, r, _ => False.elim r
  | _ :: _, [], _, _, _, _, _, r, _ => False.elim r
/-- a slot is filled (whatever stood there is forgotten before) -/
theorem SL.fill : ∀ {σ : St} {ρ : Env} {f2 z2 : List Addr} {i : Nat} {d : D} {n : Nat} {v : V} {f1 z1 : List Addr}, SL K H σ (st ρ i none) f2 z2 → σ[i]? = some (some v) → Rep K H d n v f1 z1 →
    ∃ fp fz, SL K H σ (st ρ i (some (d, n))) fp fz ∧ (f1 ++ f2).Perm fp ∧ (z1 ++ z2).Perm fz
  | [], _, _, _, _, _, _, _, _, _, _, g, _ => by simp at g
  | s :: σ, [], _, _, _, _, _, _, _, _, r, _, _ => False.elim r
  | s :: σ, x :: ρ, f2, z2, 0, d, n, v, f1, z1, r, g, rv => by
    simp only [List.length_cons, Nat.zero_lt_succ, getElem?_pos, List.getElem_cons_zero, Option.some.injEq] at g
    exact ⟨f1 ++ f2, z1 ++ z2, ⟨v, f1, f2, z1, z2, g, rfl, rfl, rv, r⟩, .refl _, .refl _⟩
  | s :: σ, none :: ρ, f2, z2, i + 1, d, n, v, f1, z1, r, g, rv => by
    obtain ⟨fp, fz, a, p, q⟩ := SL.fill (σ := σ) (ρ := ρ) (i := i) r (by simpa using g) rv
    exact ⟨fp, fz, a, p, q⟩
  | s :: σ, some (d', n') :: ρ, f2, z2, i + 1, d, n, v, f1, z1, r, g, rv => by
    obtain ⟨w, g1, g2, y1, y2, e, e1, e2, r1, r2⟩ := r
    obtain ⟨fp, fz, a, p, q⟩ := SL.fill (σ := σ) (ρ := ρ) (i := i) r2 (by simpa using g) rv
    refine ⟨g1 ++ fp, y1 ++ fz, ⟨w, g1, fp, y1, fz, e, rfl, rfl, r1, a⟩, ?_, ?_⟩
    · rw [e1]
      exact List.Perm.trans (by rw [← List.append_assoc, ← List.append_assoc]; exact List.Perm.append_right _ List.perm_append_comm) (List.Perm.append_left g1 p)
    · rw [e2]
      exact List.Perm.trans (by rw [← List.append_assoc, ← List.append_assoc]; exact List.Perm.append_right _ List.perm_append_comm) (List.Perm.append_left y1 q)
/-- a slot is forgotten -/
theorem SL.drop : ∀ {σ : St} {ρ : Env} {fp fz : List Addr} (i : Nat), SL K H σ ρ fp fz → ∃ f z, SL K H σ (st ρ i none) f z ∧ Less fp fz f z
  | [], [], fp, fz, i, r => ⟨fp, fz, by simpa [st] using r, .refl _ _⟩
  | s :: σ, none :: ρ, fp, fz, 0, r => ⟨fp, fz, r, .refl _ _⟩
  | s :: σ, some (d, n) :: ρ, fp, fz, 0, r => by
    obtain ⟨v, f1, f2, z1, z2, e, e1, e2, r1, r2⟩ := r
    refine ⟨f2, z2, r2, f1, ?_, fun a m => .inl (by rw [e2]; exact List.mem_append_right _ m)⟩
    rw [e1]; exact List.perm_append_comm
  | s :: σ, none :: ρ, fp, fz, i + 1, r => by
    obtain ⟨f, z, a, b⟩ := SL.drop (σ := σ) (ρ := ρ) i r
    exact ⟨f, z, a, b⟩
  | s :: σ, some (d, n) :: ρ, fp, fz, i + 1, r => by
    obtain ⟨v, f1, f2, z1, z2, e, e1, e2, r1, r2⟩ := r
    obtain ⟨f, z, a, b⟩ := SL.drop (σ := σ) (ρ := ρ) i r2
    subst e1 e2
    exact ⟨f1 ++ f, z1 ++ z, ⟨v, f1, f, z1, z, e, rfl, rfl, r1, a⟩, (Less.refl f1 z1).app b⟩
  | [], _ :: _, _, _, _, r => False.elim r
  | _ :: _, [], _, _, _, r => False.elim r
/-- the value of a slot of which nothing is told may be another one -/
theorem SL.other : ∀ {σ : St} {ρ : Env} {fp fz : List Addr} {i : Nat} (x : Option V), SL K H σ (st ρ i none) fp fz → SL K H (σ.set i x) (st ρ i none) fp fz
  | [], [], _, _, _, _, r => by simpa [st] using r
  | s :: σ, t :: ρ, fp, fz, 0, x, r => r
  | s :: σ, none :: ρ, fp, fz, i + 1, x, r => SL.other (σ := σ) (ρ := ρ) (i := i) x r
  | s :: σ, some (d, n) :: ρ, fp, fz, i + 1, x, r => by
    obtain ⟨v, f1, f2, z1, z2, e, e1, e2, r1, r2⟩ := r
    exact ⟨v, f1, f2, z1, z2, e, e1, e2, r1, SL.other (σ := σ) (ρ := ρ) (i := i) x r2⟩
  | [], _ :: _, _, _, 0, _, r => by simp [st, SL] at r
  | [], _ :: _, _, _, _ + 1, _, r => by simp [st, SL] at r
  | _ :: _, [], _, _, _, _, r => by simp [st, SL] at r
/-- x = v -/
theorem SL.set {σ : St} {ρ : Env} {fp fz : List Addr} {i : Nat} {d : D} {n : Nat} {v : V} {f1 z1 : List Addr} (r : SL K H σ ρ fp fz) (hi : i < σ.length) (rv : Rep K H d n v f1 z1) :
    ∃ f z, SL K H (σ.set i (some v)) (st ρ i (some (d, n))) f z ∧ Less (f1 ++ fp) (z1 ++ fz) f z := by
  obtain ⟨f2, z2, a, b⟩ := SL.drop i r
  obtain ⟨f, z, c, p, q⟩ := SL.fill (SL.other (some v) a) (by simp [hi]) rv
  refine ⟨f, z, c, ?_⟩
  obtain ⟨mv, pp, ss⟩ := (Less.refl f1 z1).app b
  exact ⟨mv, List.Perm.trans (List.Perm.append_right mv p.symm) pp, fun x m => ss x (q.mem_iff.mpr m)⟩
end
end Pi
/-! Pi3: operations on data are operations on values. -/
namespace Pi
open PySem L2

theorem Stay.new {H : Hp} {p : Addr} {o : HO} (hp : H p = none) : Stay [] H (upd H p o) := fun a u e _ => by
  rw [upd_ne (ne_of_none e hp)]; exact e
theorem Stay.trans0 {H H1 H2 : Hp} (a : Stay [] H H1) (b : Stay [] H1 H2) : Stay [] H H2 := fun x o e _ => b x o (a x o e (fun m => absurd m List.not_mem_nil)) (fun m => absurd m List.not_mem_nil)
/-- the value d of an operation on frozen things at fz -/
def PQ (K : PySem.W.Frag) (H : Hp) (fz : List Addr) (d : D) (Q : VK) : Prop :=
  ∀ v H' f z, Rep K H' d (dep d) v f z → Stay [] H H' → (∀ a ∈ f, H a = none) → f.Nodup → (∀ a ∈ f, a ∉ z) → (∀ a ∈ z, a ∈ fz ∨ H a = none) → Q v H'
section
variable {K : PySem.W.Frag} {H H' : Hp} {fz : List Addr} {Q : VK}
theorem PQ.mono {fz' : List Addr} {d : D} (q : PQ K H fz d Q) (h : ∀ a ∈ fz', a ∈ fz) : PQ K H fz' d Q := fun v H' f z r s a b c e => q v H' f z r s a b c fun x m => (e x m).imp (h x) id
theorem PQ.int {i : Int} (q : PQ K H fz (.int i) Q) : Q (.int i) H := q _ H [] [] (by simp [Rep]) (.refl _ _) (by simp) (by simp) (by simp) (by simp)
theorem PQ.str {i : Str} (q : PQ K H fz (.str i) Q) : Q (.str i) H := q _ H [] [] (by simp [Rep]) (.refl _ _) (by simp) (by simp) (by simp) (by simp)
theorem PQ.bl {i : Bool} (q : PQ K H fz (.bl i) Q) : Q (.bl i) H := q _ H [] [] (by simp [Rep]) (.refl _ _) (by simp) (by simp) (by simp) (by simp)
theorem PQ.non (q : PQ K H fz .non Q) : Q .non H := q _ H [] [] (by simp [Rep]) (.refl _ _) (by simp) (by simp) (by simp) (by simp)
/-- a thing that stands already -/
theorem PQ.same {d : D} {v : V} {z : List Addr} (q : PQ K H fz d Q) (hd : dep d = 0) (r : Rep K H d 0 v [] z) (hz : ∀ a ∈ z, a ∈ fz) : Q v H :=
  q v H [] z (by rw [hd]; exact r) (.refl _ _) (by simp) (by simp) (by simp) fun a m => .inl (hz a m)
theorem RepL.stay0 (s : Stay [] H H') {ds : List D} {n : Nat} {vs : List V} {fp fz : List Addr} (r : RepL K H ds n vs fp fz) : RepL K H' ds n vs fp fz := RepL.stay s ds n vs fp fz r (by simp) (by simp)
theorem Rep.stay0 (s : Stay [] H H') {d : D} {n : Nat} {v : V} {fp fz : List Addr} (r : Rep K H d n v fp fz) : Rep K H' d n v fp fz := Rep.stay s d n v fp fz r (by simp) (by simp)
theorem PQ.lst {l : List D} {vs : List V} {z : List Addr} (q : PQ K H fz (.lst l) Q) (r : RepL K H l 0 vs [] z) (hz : ∀ a ∈ z, a ∈ fz) (p : Addr) (hp : H p = none) : Q (.ref p) (upd H p (.lst vs)) := by
  have own := (RepL.own l 0 vs [] z r).2
  refine q _ _ [p] z ?_ (.new hp) (fun a m => by rw [List.mem_singleton.mp m]; exact hp) (by simp) (fun a m => ?_) fun a m => .inl (hz a m)
  · simp only [Rep, dep]
    exact ⟨p, vs, [], z, rfl, RepL.stay0 (.new hp) r, .inr ⟨by decide, upd_same, rfl, rfl⟩⟩
  · rw [List.mem_singleton.mp m]
    intro m2
    obtain ⟨o, e⟩ := own p m2
    rw [hp] at e; cases e
theorem PQ.tup {l : List D} {vs : List V} {z : List Addr} (q : PQ K H fz (.tup l) Q) (r : RepL K H l 0 vs [] z) (hz : ∀ a ∈ z, a ∈ fz) (p : Addr) (hp : H p = none) : Q (.ref p) (upd H p (.tup vs)) := by
  refine q _ _ [] z ?_ (.new hp) (by simp) (by simp) (by simp) fun a m => .inl (hz a m)
  simp only [Rep, dep]
  exact ⟨p, vs, rfl, upd_same, RepL.stay0 (.new hp) r⟩
theorem RepL.len : ∀ {ds : List D} {n : Nat} {vs : List V} {fp fz : List Addr}, RepL K H ds n vs fp fz → vs.length = ds.length
  | [], _, _, _, _, r => by simp only [RepL] at r; simp [r]
  | d :: ds, n, vs, fp, fz, r => by
    simp only [RepL] at r
    obtain ⟨v, vs', f1, f2, z1, z2, e, e1, e2, r1, r2⟩ := r
    simp [e, RepL.len r2]
theorem RepL.app : ∀ {ds es : List D} {n : Nat} {vs ws : List V} {f1 z1 f2 z2 : List Addr}, RepL K H ds n vs f1 z1 → RepL K H es n ws f2 z2 → RepL K H (ds ++ es) n (vs ++ ws) (f1 ++ f2) (z1 ++ z2)
  | [], es, n, vs, ws, f1, z1, f2, z2, r, s => by
    simp only [RepL] at r
    obtain ⟨rfl, rfl, rfl⟩ := r
    exact s
  | d :: ds, es, n, vs, ws, f1, z1, f2, z2, r, s => by
    simp only [RepL] at r
    obtain ⟨v, vs', g1, g2, y1, y2, e, e1, e2, r1, r2⟩ := r
    subst e e1 e2
    simp only [List.cons_append, RepL]
    exact ⟨v, vs' ++ ws, g1, g2 ++ f2, y1, y2 ++ z2, rfl, List.append_assoc .., List.append_assoc .., r1, RepL.app r2 s⟩
/-- frozen items, from their values -/
theorem RepL.at0 : ∀ {ds : List D} {vs : List V} {z : List Addr}, RepL K H ds 0 vs [] z → ∀ (i : Nat) (d : D), ds[i]? = some d → ∃ v z', vs[i]? = some v ∧ Rep K H d 0 v [] z' ∧ ∀ a ∈ z', a ∈ z
  | [], _, _, _, i, d, h => by simp at h
  | x :: ds, vs, z, r, 0, d, h => by
    simp only [RepL] at r
    obtain ⟨v, vs', g1, g2, y1, y2, e, e1, e2, r1, r2⟩ := r
    have hx : x = d := by simpa using h
    subst hx
    have : g1 = [] := Rep.zero _ _ _ _ r1
    subst this
    exact ⟨v, y1, by simp [e], r1, fun a m => by rw [e2]; exact List.mem_append_left _ m⟩
  | x :: ds, vs, z, r, i + 1, d, h => by
    simp only [RepL] at r
    obtain ⟨v, vs', g1, g2, y1, y2, e, e1, e2, r1, r2⟩ := r
    have : g2 = [] := RepL.zero _ _ _ _ r2
    subst this
    obtain ⟨w, z', a, b, c⟩ := RepL.at0 r2 i d (by simpa using h)
    exact ⟨w, z', by simp [e, a], b, fun x m => by rw [e2]; exact List.mem_append_right _ (c x m)⟩
/-- any list of items of a frozen list: by a choice of places -/
theorem RepL.of_at {z : List Addr} : ∀ (es : List D) (ws : List V), es.length = ws.length → (∀ (i : Nat) (d : D) (v : V), es[i]? = some d → ws[i]? = some v → ∃ z', Rep K H d 0 v [] z' ∧ ∀ a ∈ z', a ∈ z) → ∃ z', RepL K H es 0 ws [] z' ∧ ∀ a ∈ z', a ∈ z
  | [], [], _, _ => ⟨[], by simp [RepL], by simp⟩
  | d :: es, v :: ws, hl, h => by
    obtain ⟨z1, r1, s1⟩ := h 0 d v rfl rfl
    obtain ⟨z2, r2, s2⟩ := RepL.of_at es ws (by simpa using hl) fun i d v a b => h (i + 1) d v (by simpa using a) (by simpa using b)
    refine ⟨z1 ++ z2, ?_, fun a m => (List.mem_append.mp m).elim (s1 a) (s2 a)⟩
    simp only [RepL]
    exact ⟨v, ws, [], [], z1, z2, rfl, rfl, rfl, r1, r2⟩
  | [], _ :: _, hl, _ => by simp at hl
  | _ :: _, [], hl, _ => by simp at hl
theorem RepL.drop {ds : List D} {vs : List V} {z : List Addr} (r : RepL K H ds 0 vs [] z) (k : Nat) : ∃ z', RepL K H (ds.drop k) 0 (vs.drop k) [] z' ∧ ∀ a ∈ z', a ∈ z := by
  refine RepL.of_at _ _ (by simp [RepL.len r]) fun i d v a b => ?_
  rw [List.getElem?_drop] at a b
  obtain ⟨w, z', e, r', s⟩ := RepL.at0 r _ d a
  rw [b] at e; cases e
  exact ⟨z', r', s⟩
theorem RepL.takeN {ds : List D} {vs : List V} {z : List Addr} (r : RepL K H ds 0 vs [] z) (k : Nat) : ∃ z', RepL K H (ds.take k) 0 (vs.take k) [] z' ∧ ∀ a ∈ z', a ∈ z := by
  refine RepL.of_at _ _ (by simp [RepL.len r]) fun i d v a b => ?_
  rw [List.getElem?_take] at a b
  split at a
  · rename_i hk
    rw [if_pos hk] at b
    obtain ⟨w, z', e, r', s⟩ := RepL.at0 r _ d a
    rw [b] at e; cases e
    exact ⟨z', r', s⟩
  · cases a
theorem RepL.rev {ds : List D} {vs : List V} {z : List Addr} (r : RepL K H ds 0 vs [] z) : ∃ z', RepL K H ds.reverse 0 vs.reverse [] z' ∧ ∀ a ∈ z', a ∈ z := by
  have hl := RepL.len r
  refine RepL.of_at _ _ (by simp [hl]) fun i d v a b => ?_
  by_cases hi : i < ds.length
  · rw [List.getElem?_reverse hi] at a
    rw [List.getElem?_reverse (by omega), hl] at b
    obtain ⟨w, z', e, r', s⟩ := RepL.at0 r _ d a
    rw [b] at e; cases e
    exact ⟨z', r', s⟩
  · rw [List.getElem?_eq_none (by simp; omega)] at a; cases a
theorem RepL.rep {ds : List D} {vs : List V} {z : List Addr} (r : RepL K H ds 0 vs [] z) : ∀ k : Nat, ∃ z', RepL K H (List.replicate k ds).flatten 0 (List.replicate k vs).flatten [] z' ∧ ∀ a ∈ z', a ∈ z
  | 0 => ⟨[], by simp [RepL], by simp⟩
  | k + 1 => by
    obtain ⟨z', r', s⟩ := RepL.rep r k
    exact ⟨z ++ z', by simpa [List.replicate_succ] using RepL.app r r', fun a m => (List.mem_append.mp m).elim id (s a)⟩
theorem RepL.ints : ∀ (ns : List Int), RepL K H (ns.map .int) 0 (ns.map .int) [] []
  | [] => by simp [RepL]
  | n :: ns => by
    simp only [List.map_cons, RepL]
    exact ⟨.int n, ns.map .int, [], [], [], [], rfl, rfl, rfl, by simp [Rep], RepL.ints ns⟩
theorem Rep.toInt {i : Int} {n : Nat} {v : V} {fp fz : List Addr} (r : Rep K H (.int i) n v fp fz) : v = .int i := by simp only [Rep] at r; exact r.1
theorem Rep.toStr {i : Str} {n : Nat} {v : V} {fp fz : List Addr} (r : Rep K H (.str i) n v fp fz) : v = .str i := by simp only [Rep] at r; exact r.1
theorem Rep.toBl {i : Bool} {n : Nat} {v : V} {fp fz : List Addr} (r : Rep K H (.bl i) n v fp fz) : v = .bl i := by simp only [Rep] at r; exact r.1
theorem Rep.toNon {n : Nat} {v : V} {fp fz : List Addr} (r : Rep K H .non n v fp fz) : v = .non := by simp only [Rep] at r; exact r.1
theorem Rep.toLst {l : List D} {v : V} {fz : List Addr} (r : Rep K H (.lst l) 0 v [] fz) : ∃ a vs z, v = .ref a ∧ H a = some (.lst vs) ∧ RepL K H l 0 vs [] z ∧ fz = a :: z := by
  simp only [Rep] at r
  obtain ⟨a, vs, f, z, e, r, q⟩ := r
  rcases q with ⟨_, q, e1, e2⟩ | ⟨h, _⟩
  · subst e1; exact ⟨a, vs, z, e, q, r, e2⟩
  · exact absurd rfl h
theorem Rep.toTup {l : List D} {n : Nat} {v : V} {fp fz : List Addr} (r : Rep K H (.tup l) n v fp fz) : ∃ a vs, v = .ref a ∧ H a = some (.tup vs) ∧ RepL K H l n vs fp fz := by
  simpa only [Rep] using r
theorem Rep.toCtup {l : List D} {n : Nat} {v : V} {fp fz : List Addr} (r : Rep K H (.ctup l) n v fp fz) : ∃ a vs, v = .ref a ∧ SqT K H a vs ∧ RepL K H l n vs fp fz := by
  simpa only [Rep] using r
theorem Rep.toDk {l : List (Key × D)} {v : V} {fz : List Addr} (r : Rep K H (.dk l) 0 v [] fz) : ∃ a vs z, v = .ref a ∧ Rd H a (.dK vs) ∧ RepK K H l 0 vs [] z ∧ fz = a :: z := by
  simp only [Rep] at r
  obtain ⟨a, vs, f, z, e, r, q⟩ := r
  rcases q with ⟨_, q, e1, e2⟩ | ⟨h, _⟩
  · subst e1; exact ⟨a, vs, z, e, q, r, e2⟩
  · exact absurd rfl h
theorem Rep.toDt {l : List (List Key × D)} {v : V} {fz : List Addr} (r : Rep K H (.dt l) 0 v [] fz) : ∃ a vs z, v = .ref a ∧ Rd H a (.dT vs) ∧ RepT K H l 0 vs [] z ∧ fz = a :: z := by
  simp only [Rep] at r
  obtain ⟨a, vs, f, z, e, r, q⟩ := r
  rcases q with ⟨_, q, e1, e2⟩ | ⟨h, _⟩
  · subst e1; exact ⟨a, vs, z, e, q, r, e2⟩
  · exact absurd rfl h
theorem sql_rd {a : Addr} {xs : List V} (r : Rd H a (.lst xs)) : SqL K H a xs := .inl r
end
/-- what is known of a list's object -/
theorem lst_rd {X : Cx} {pins : List (Addr × Obj)} {σ : St} {H : Hp} {s : Shared} {l : Addr} {xs : List V} (I : Inv X pins σ H s) (r : Rd H l (.lst xs)) :
    xs.length ≤ sizeLine ∧ ∃ (its : List Value) (n : Nat), Vals xs its ∧ s.heap.get? l = some { cls := .type "list", data := .seq its.toArray n } :=
  r.ok I.hok
section
variable {X : Cx}
/-- an operation of two frozen data -/
def r2D (K : PySem.W.Frag) (f : D → D → Option D) : R2 := fun x y H Q => ∃ d1 z1 d2 z2 d, Rep K H d1 0 x [] z1 ∧ Rep K H d2 0 y [] z2 ∧ f d1 d2 = some d ∧ PQ K H (z1 ++ z2) d Q
theorem opr_imp {f : Value → Value → Sem Value} {r r' : R2} (h : OpR X f r) (i : ∀ x y H Q, r' x y H Q → r x y H Q) : OpR X f r' := fun pins s σ H x y v u Q I rx ry q => h pins s σ H x y v u Q I rx ry (i x y H Q q)
theorem opr_false {f : Value → Value → Sem Value} {r' : R2} (i : ∀ x y H Q, ¬ r' x y H Q) : OpR X f r' := fun pins s σ H x y v u Q I rx ry q => absurd q (i x y H Q)
theorem mulOk_c {i j : Int} (h : mulOk i j = true) : CMul i j ∨ CMulW i j := by
  simp only [mulOk, Bool.or_eq_true, decide_eq_true_eq] at h
  rcases h with (h | h) | h
  · exact .inl (.inl (by omega))
  · exact .inl (.inr (by omega))
  · exact .inr h
theorem divOk_c {j : Int} (h : divOk j = true) : (∀ i : Int, CDiv i j) ∨ (∀ i : Int, CDivW i j) := by
  simp only [divOk, Bool.and_eq_true, Bool.or_eq_true, decide_eq_true_eq] at h
  rcases h with ⟨h0, h | h⟩
  · exact .inl fun _ => ⟨h0, h⟩
  · exact .inr fun _ => ⟨h0, h⟩
theorem op2_ok (o : Operator) : OpR X (binaryOp o) (r2D X.K (op2D o)) := by
  cases o
  case Add =>
    intro pins s σ H x y v u Q I rx ry ⟨d1, z1, d2, z2, d, r1, r2, e, q⟩
    simp only [op2D] at e
    unfold addD at e
    split at e
    · cases e
      cases r1.toInt; cases r2.toInt
      exact op_add pins s σ H _ _ v u Q I rx ry ⟨_, _, rfl, rfl, q.int⟩
    · split at e
      · rename_i hl
        cases e
        cases r1.toStr; cases r2.toStr
        exact op_add_str pins s σ H _ _ v u Q I rx ry ⟨_, _, rfl, rfl, hl, q.str⟩
      · cases e
    · split at e
      · rename_i hl
        cases e
        obtain ⟨a, vs, z, rfl, h1, rl1, rfl⟩ := r1.toLst
        obtain ⟨b, ws, y, rfl, h2, rl2, rfl⟩ := r2.toLst
        refine op_cat pins s σ H _ _ v u Q I rx ry ⟨a, b, vs, ws, rfl, rfl, h1, h2, by rw [RepL.len rl1, RepL.len rl2]; exact hl, fun p hp => ?_⟩
        exact q.lst (RepL.app rl1 rl2) (fun a m => by simp only [List.mem_append, List.mem_cons] at m ⊢; rcases m with m | m <;> simp [m]) p hp
      · cases e
    · rename_i l m
      split at e
      · rename_i hl
        split at e
        · cases e
        · rename_i hne
          cases e
          obtain ⟨a, vs, rfl, h1, rl1⟩ := r1.toTup
          obtain ⟨b, ws, rfl, h2, rl2⟩ := r2.toTup
          have l1 := RepL.len rl1
          have l2 := RepL.len rl2
          refine op_catT pins s σ H _ _ v u Q I rx ry ⟨a, b, vs, ws, rfl, rfl, SqT.of h1, SqT.of h2, ?_, by rw [l1, l2]; exact hl, fun e => ?_, fun _ p hp => ?_⟩
          · rintro rfl
            cases l with
            | nil => exact hne rfl
            | cons _ _ => simp at l1
          · subst e
            have : m = [] := by cases m with | nil => rfl | cons _ _ => simp at l2
            subst this
            refine q.same (z := z1) rfl ?_ (fun a m => List.mem_append_left _ m)
            rw [List.append_nil]
            exact r1
          · exact q.tup (RepL.app rl1 rl2) (fun a m => m) p hp
      · cases e
    · cases e
  case Sub =>
    intro pins s σ H x y v u Q I rx ry ⟨d1, z1, d2, z2, d, r1, r2, e, q⟩
    simp only [op2D] at e
    unfold subD at e
    split at e
    · cases e
      cases r1.toInt; cases r2.toInt
      exact op_sub pins s σ H _ _ v u Q I rx ry ⟨_, _, rfl, rfl, q.int⟩
    · cases e
  case Mult =>
    intro pins s σ H x y v u Q I rx ry ⟨d1, z1, d2, z2, d, r1, r2, e, q⟩
    simp only [op2D] at e
    unfold mulD at e
    split at e
    · split at e
      · rename_i hm
        cases e
        cases r1.toInt; cases r2.toInt
        rcases mulOk_c hm with c | c
        · exact op_mul pins s σ H _ _ v u Q I rx ry ⟨_, _, rfl, rfl, c, q.int⟩
        · exact op_mulW pins s σ H _ _ v u Q I rx ry ⟨_, _, rfl, rfl, c, q.int⟩
      · cases e
    · split at e
      · rename_i hm
        simp only [Bool.and_eq_true, decide_eq_true_eq] at hm
        cases e
        obtain ⟨a, vs, z, rfl, h1, rl1, rfl⟩ := r1.toLst
        cases r2.toInt
        refine op_rep pins s σ H _ _ v u Q I rx ry ⟨a, _, vs, rfl, rfl, h1, hm.1.1, hm.1.2, by rw [RepL.len rl1]; exact hm.2, fun p hp => ?_⟩
        obtain ⟨z', r', s'⟩ := RepL.rep rl1 _
        exact q.lst r' (fun a m => List.mem_append_left _ (List.mem_cons_of_mem _ (s' a m))) p hp
      · cases e
    · cases e
  case FloorDiv =>
    intro pins s σ H x y v u Q I rx ry ⟨d1, z1, d2, z2, d, r1, r2, e, q⟩
    simp only [op2D] at e
    unfold fdivD at e
    split at e
    · split at e
      · rename_i hm
        cases e
        cases r1.toInt; cases r2.toInt
        rcases divOk_c hm with c | c
        · exact op_fdiv pins s σ H _ _ v u Q I rx ry ⟨_, _, rfl, rfl, c _, q.int⟩
        · exact op_fdivW pins s σ H _ _ v u Q I rx ry ⟨_, _, rfl, rfl, c _, q.int⟩
      · cases e
    · cases e
  case Mod =>
    intro pins s σ H x y v u Q I rx ry ⟨d1, z1, d2, z2, d, r1, r2, e, q⟩
    simp only [op2D] at e
    unfold modD at e
    split at e
    · split at e
      · rename_i hm
        cases e
        cases r1.toInt; cases r2.toInt
        exact op_mod pins s σ H _ _ v u Q I rx ry ⟨_, _, rfl, rfl, hm, q.int⟩
      · split at e
        · rename_i hm
          cases e
          cases r1.toInt; cases r2.toInt
          exact op_modN pins s σ H _ _ v u Q I rx ry ⟨_, _, rfl, rfl, hm, q.int⟩
        · cases e
    · cases e
  case Pow =>
    intro pins s σ H x y v u Q I rx ry ⟨d1, z1, d2, z2, d, r1, r2, e, q⟩
    simp only [op2D] at e
    unfold powD at e
    split at e
    · split at e
      · rename_i hm
        simp only [Bool.and_eq_true, decide_eq_true_eq] at hm
        cases e
        cases r1.toInt; cases r2.toInt
        exact op_pow pins s σ H _ _ v u Q I rx ry ⟨_, _, rfl, rfl, ⟨hm.1.1, hm.1.2, hm.2⟩, q.int⟩
      · cases e
    · cases e
  case LShift =>
    intro pins s σ H x y v u Q I rx ry ⟨d1, z1, d2, z2, d, r1, r2, e, q⟩
    simp only [op2D] at e
    unfold shlD at e
    split at e
    · split at e
      · rename_i hm
        simp only [Bool.and_eq_true, decide_eq_true_eq] at hm
        cases e
        cases r1.toInt; cases r2.toInt
        exact op_shl pins s σ H _ _ v u Q I rx ry ⟨_, _, rfl, rfl, ⟨hm.1.1, hm.1.2, hm.2⟩, q.int⟩
      · cases e
    · cases e
  case RShift =>
    intro pins s σ H x y v u Q I rx ry ⟨d1, z1, d2, z2, d, r1, r2, e, q⟩
    simp only [op2D] at e
    unfold shrD at e
    split at e
    · split at e
      · rename_i hm
        cases e
        cases r1.toInt; cases r2.toInt
        exact op_shr pins s σ H _ _ v u Q I rx ry ⟨_, _, rfl, rfl, hm, q.int⟩
      · cases e
    · cases e
  case BitAnd =>
    intro pins s σ H x y v u Q I rx ry ⟨d1, z1, d2, z2, d, r1, r2, e, q⟩
    simp only [op2D] at e
    unfold andD at e
    split at e
    · cases e
      cases r1.toInt; cases r2.toInt
      exact op_and pins s σ H _ _ v u Q I rx ry ⟨_, _, rfl, rfl, q.int⟩
    · cases e
  case BitOr =>
    intro pins s σ H x y v u Q I rx ry ⟨d1, z1, d2, z2, d, r1, r2, e, q⟩
    simp only [op2D] at e
    unfold orD at e
    split at e
    · cases e
      cases r1.toInt; cases r2.toInt
      exact op_or pins s σ H _ _ v u Q I rx ry ⟨_, _, rfl, rfl, q.int⟩
    · cases e
  all_goals exact opr_false fun x y H Q ⟨d1, z1, d2, z2, d, r1, r2, e, q⟩ => by simp [op2D] at e
end
end Pi
/-! Pi4: comparisons, places, built-in functions. -/
namespace Pi
open PySem L2

section
variable {K : PySem.W.Frag} {H H' : Hp} {fz : List Addr}
/-! ### data that == compares -/
mutual
theorem Rep.dp : ∀ (d : D) (v : V) (z : List Addr) (p : PyData), Rep K H d 0 v [] z → toPy d = some p → p.canLay0 = true → Dp K H v p
  | .non, v, z, p, r, t, _ => by cases r.toNon; simp only [toPy, Option.some.injEq] at t; subst t; exact .non
  | .bl b, v, z, p, r, t, _ => by cases r.toBl; simp only [toPy, Option.some.injEq] at t; subst t; exact .bl b
  | .int b, v, z, p, r, t, _ => by cases r.toInt; simp only [toPy, Option.some.injEq] at t; subst t; exact .int b
  | .str b, v, z, p, r, t, _ => by cases r.toStr; simp only [toPy, Option.some.injEq] at t; subst t; exact .str b
  | .tup l, v, z, p, r, t, c => by
    obtain ⟨a, vs, rfl, q, rl⟩ := r.toTup
    simp only [toPy, Option.map_eq_some_iff] at t
    obtain ⟨ps, t, rfl⟩ := t
    exact .tup (SqT.of q) (RepL.dp l vs z ps rl t (by simpa only [PyData.canLay0] using c))
  | .ctup l, v, z, p, r, t, c => by
    obtain ⟨a, vs, rfl, q, rl⟩ := r.toCtup
    simp only [toPy, Option.map_eq_some_iff] at t
    obtain ⟨ps, t, rfl⟩ := t
    exact .tup q (RepL.dp l vs z ps rl t (by simpa only [PyData.canLay0] using c))
  | .lst l, v, z, p, r, t, c => by
    obtain ⟨a, vs, y, rfl, q, rl, rfl⟩ := r.toLst
    simp only [toPy, Option.map_eq_some_iff] at t
    obtain ⟨ps, t, rfl⟩ := t
    exact .lst (SqL.of q) (RepL.dp l vs y ps rl t (by simpa only [PyData.canLay0] using c))
  | .dk l, v, z, p, r, t, c => by
    simp only [toPy, Option.map_eq_some_iff] at t
    obtain ⟨ps, t, rfl⟩ := t
    simp [PyData.canLay0] at c
  | .dt _, _, _, _, _, t, _ => by simp [toPy] at t
  | .ins _ _, _, _, _, _, t, _ => by simp [toPy] at t
  | .ty _, _, _, _, _, t, _ => by simp [toPy] at t
  | .scr _, _, _, _, _, t, _ => by simp [toPy] at t
theorem RepL.dp : ∀ (l : List D) (vs : List V) (z : List Addr) (ps : List PyData), RepL K H l 0 vs [] z → toPyL l = some ps → PyData.canLayAll0 ps = true → DpAll K H vs ps
  | [], vs, z, ps, r, t, _ => by
    simp only [RepL] at r
    simp only [toPyL, Option.some.injEq] at t
    obtain ⟨rfl, _, _⟩ := r
    subst t; exact .nil
  | d :: l, vs, z, ps, r, t, c => by
    simp only [RepL] at r
    obtain ⟨v, vs', g1, g2, y1, y2, e, e1, e2, r1, r2⟩ := r
    have h1 := Rep.zero _ _ _ _ r1
    have h2 := RepL.zero _ _ _ _ r2
    subst e e2 h1 h2
    simp only [toPyL] at t
    split at t
    · rename_i p ps' e1 e2
      cases t
      simp only [PyData.canLayAll0, Bool.and_eq_true] at c
      exact .cons (Rep.dp d v y1 _ r1 e1 c.1) (RepL.dp l vs' y2 _ r2 e2 c.2)
    · cases t
end
theorem flat_rep {d : D} {v : V} {z : List Addr} (r : Rep K H d 0 v [] z) (f : flatD d = true) : flatV v = true := by
  cases d <;> simp [flatD] at f <;> simp only [Rep] at r <;> rw [r.1] <;> rfl
theorem flat_repL : ∀ {l : List D} {vs : List V} {z : List Addr}, RepL K H l 0 vs [] z → flatL l = true → vs.all flatV = true
  | [], vs, z, r, _ => by simp only [RepL] at r; rw [r.1]; rfl
  | d :: l, vs, z, r, f => by
    simp only [RepL] at r
    obtain ⟨v, vs', g1, g2, y1, y2, e, e1, e2, r1, r2⟩ := r
    have h1 := Rep.zero _ _ _ _ r1
    have h2 := RepL.zero _ _ _ _ r2
    subst e h1 h2
    simp only [flatL, Bool.and_eq_true] at f
    simp only [List.all_cons, Bool.and_eq_true]
    exact ⟨flat_rep r1 f.1, flat_repL r2 f.2⟩
theorem eqF_rep {d e : D} {v w : V} {z y : List Addr} (r : Rep K H d 0 v [] z) (s : Rep K H e 0 w [] y) (f : flatD d = true) (g : flatD e = true) : eqV v w = eqF d e := by
  cases d <;> simp [flatD] at f <;> cases e <;> simp [flatD] at g <;> simp only [Rep] at r s <;> rw [r.1, s.1] <;> rfl
theorem memF_rep {d : D} {v : V} {z : List Addr} (r : Rep K H d 0 v [] z) (f : flatD d = true) : ∀ {l : List D} {vs : List V} {y : List Addr}, RepL K H l 0 vs [] y → flatL l = true → inV v vs = memF d l
  | [], vs, y, r2, _ => by simp only [RepL] at r2; rw [r2.1]; rfl
  | e :: l, vs, y, r2, g => by
    simp only [RepL] at r2
    obtain ⟨w, vs', g1, g2, y1, y2, e0, e1, e2, s1, s2⟩ := r2
    have h1 := Rep.zero _ _ _ _ s1
    have h2 := RepL.zero _ _ _ _ s2
    subst e0 h1 h2
    simp only [flatL, Bool.and_eq_true] at g
    have := memF_rep r f s2 g.2
    simp only [inV, List.any_cons, memF] at this ⊢
    rw [this, eqF_rep s1 r g.1 f]
theorem key_rep {d : D} {k : Key} {v : V} {z : List Addr} (r : Rep K H d 0 v [] z) (h : isKey d = some k) : v = kV k := by
  cases d <;> simp [isKey] at h <;> subst h <;> simp only [Rep] at r <;> rw [r.1] <;> rfl
theorem keys_rep : ∀ {l : List D} {ks : List Key} {vs : List V} {z : List Addr}, RepL K H l 0 vs [] z → isKeys l = some ks → vs = ks.map kV
  | [], ks, vs, z, r, h => by simp only [RepL] at r; simp only [isKeys, Option.some.injEq] at h; rw [r.1, ← h]; rfl
  | d :: l, ks, vs, z, r, h => by
    simp only [RepL] at r
    obtain ⟨w, vs', g1, g2, y1, y2, e0, e1, e2, s1, s2⟩ := r
    have h1 := Rep.zero _ _ _ _ s1
    have h2 := RepL.zero _ _ _ _ s2
    subst e0 h1 h2
    simp only [isKeys] at h
    split at h
    · rename_i k ks' a b
      cases h
      rw [key_rep s1 a, keys_rep s2 b]; rfl
    · cases h
theorem RepK.val {n : Nat} : ∀ {l : List (Key × D)} {kvs : List (Key × V)} {fp z : List Addr}, RepK K H l n kvs fp z → ∀ (k : Key), (getK l k = none ∧ valV kvs k = none) ∨ (∃ d v, getK l k = some d ∧ valV kvs k = some v)
  | [], kvs, fp, z, r, k => by
    simp only [RepK] at r
    rw [r.1]; exact .inl ⟨rfl, valV_nil⟩
  | (j, d) :: l, kvs, fp, z, r, k => by
    simp only [RepK] at r
    obtain ⟨w, vs', g1, g2, y1, y2, e0, e1, e2, s1, s2⟩ := r
    subst e0
    by_cases hj : j = k
    · exact .inr ⟨d, w, by simp [getK, hj], valV_pos hj⟩
    · rcases RepK.val s2 k with ⟨a, b⟩ | ⟨d', v', a, b⟩
      · exact .inl ⟨by simp [getK, hj, a], by rw [valV_neg hj]; exact b⟩
      · exact .inr ⟨d', v', by simp [getK, hj, a], by rw [valV_neg hj]; exact b⟩
theorem RepT.val {n : Nat} : ∀ {l : List (List Key × D)} {kvs : List (List Key × V)} {fp z : List Addr}, RepT K H l n kvs fp z → ∀ (k : List Key), (getK l k = none ∧ valV kvs k = none) ∨ (∃ d v, getK l k = some d ∧ valV kvs k = some v)
  | [], kvs, fp, z, r, k => by
    simp only [RepT] at r
    rw [r.1]; exact .inl ⟨rfl, valV_nil⟩
  | (j, d) :: l, kvs, fp, z, r, k => by
    simp only [RepT] at r
    obtain ⟨w, vs', g1, g2, y1, y2, e0, e1, e2, s1, s2⟩ := r
    subst e0
    by_cases hj : j = k
    · exact .inr ⟨d, w, by simp [getK, hj], valV_pos hj⟩
    · rcases RepT.val s2 k with ⟨a, b⟩ | ⟨d', v', a, b⟩
      · exact .inl ⟨by simp [getK, hj, a], by rw [valV_neg hj]; exact b⟩
      · exact .inr ⟨d', v', by simp [getK, hj, a], by rw [valV_neg hj]; exact b⟩
/-- what a frozen dict holds -/
theorem RepK.at0 : ∀ {l : List (Key × D)} {kvs : List (Key × V)} {z : List Addr}, RepK K H l 0 kvs [] z → ∀ (k : Key) (d : D), getK l k = some d → ∃ v z', valV kvs k = some v ∧ Rep K H d 0 v [] z' ∧ ∀ a ∈ z', a ∈ z
  | [], kvs, z, r, k, d, h => by simp [getK] at h
  | (j, x) :: l, kvs, z, r, k, d, h => by
    simp only [RepK] at r
    obtain ⟨w, vs', g1, g2, y1, y2, e0, e1, e2, s1, s2⟩ := r
    have h1 := Rep.zero _ _ _ _ s1
    have h2 := RepK.zero _ _ _ _ s2
    subst e0 h1 h2
    by_cases hj : j = k
    · simp only [getK, if_pos hj, Option.some.injEq] at h
      subst h
      exact ⟨w, y1, valV_pos hj, s1, fun a m => by rw [e2]; exact List.mem_append_left _ m⟩
    · simp only [getK, if_neg hj] at h
      obtain ⟨v, z', a, b, c⟩ := RepK.at0 s2 k d h
      exact ⟨v, z', by rw [valV_neg hj]; exact a, b, fun a m => by rw [e2]; exact List.mem_append_right _ (c a m)⟩
theorem RepT.at0 : ∀ {l : List (List Key × D)} {kvs : List (List Key × V)} {z : List Addr}, RepT K H l 0 kvs [] z → ∀ (k : List Key) (d : D), getK l k = some d → ∃ v z', valV kvs k = some v ∧ Rep K H d 0 v [] z' ∧ ∀ a ∈ z', a ∈ z
  | [], kvs, z, r, k, d, h => by simp [getK] at h
  | (j, x) :: l, kvs, z, r, k, d, h => by
    simp only [RepT] at r
    obtain ⟨w, vs', g1, g2, y1, y2, e0, e1, e2, s1, s2⟩ := r
    have h1 := Rep.zero _ _ _ _ s1
    have h2 := RepT.zero _ _ _ _ s2
    subst e0 h1 h2
    by_cases hj : j = k
    · simp only [getK, if_pos hj, Option.some.injEq] at h
      subst h
      exact ⟨w, y1, valV_pos hj, s1, fun a m => by rw [e2]; exact List.mem_append_left _ m⟩
    · simp only [getK, if_neg hj] at h
      obtain ⟨v, z', a, b, c⟩ := RepT.at0 s2 k d h
      exact ⟨v, z', by rw [valV_neg hj]; exact a, b, fun a m => by rw [e2]; exact List.mem_append_right _ (c a m)⟩
theorem RepK.len : ∀ {l : List (Key × D)} {n : Nat} {kvs : List (Key × V)} {fp z : List Addr}, RepK K H l n kvs fp z → kvs.length = l.length
  | [], n, kvs, fp, z, r => by simp only [RepK] at r; simp [r]
  | (k, d) :: l, n, kvs, fp, z, r => by
    simp only [RepK] at r
    obtain ⟨w, vs', g1, g2, y1, y2, e0, e1, e2, s1, s2⟩ := r
    simp [e0, RepK.len s2]
theorem hasK_get {κ α : Type} [DecidableEq κ] (l : List (κ × α)) (k : κ) : hasK l k = (getK l k).isSome := by
  induction l with
  | nil => rfl
  | cons p r ih => simp only [hasK, getK]; split <;> simp [ih]
/-- what the dict d at its address holds at the key x -/
theorem dget_rep {o x : D} {v w : V} {z y : List Addr} (r : Rep K H o 0 v [] z) (s : Rep K H x 0 w [] y) {b : Bool} (h : inD x o = some b) (hd : (∃ l, o = .dk l) ∨ ∃ l, o = .dt l) :
    ∃ a u, v = .ref a ∧ DGet H a w u ∧ u.isSome = b := by
  rcases hd with ⟨l, rfl⟩ | ⟨l, rfl⟩
  · obtain ⟨a, kvs, z', rfl, q, rk, rfl⟩ := r.toDk
    simp only [inD] at h
    split at h
    · rename_i k hk
      cases h
      refine ⟨a, valV kvs k, rfl, .inl ⟨kvs, k, q, key_rep s hk, rfl⟩, ?_⟩
      rw [hasK_get]
      rcases rk.val k with ⟨a, b⟩ | ⟨_, _, a, b⟩ <;> rw [a, b] <;> rfl
    · cases h
  · obtain ⟨a, kvs, z', rfl, q, rk, rfl⟩ := r.toDt
    simp only [inD] at h
    split at h
    · rename_i ks
      simp only [Option.map_eq_some_iff] at h
      obtain ⟨k, hk, rfl⟩ := h
      obtain ⟨c, vs, rfl, hc, rl⟩ := s.toTup
      refine ⟨a, valV kvs k, rfl, .inr ⟨kvs, k, c, q, rfl, by rw [hc, keys_rep rl hk], rfl⟩, ?_⟩
      rw [hasK_get]
      rcases rk.val k with ⟨a, b⟩ | ⟨_, _, a, b⟩ <;> rw [a, b] <;> rfl
    · cases h
theorem shaped_lay {p : PyData} (h : SeqAt.shaped p = true) : p.canLay0 = true := SeqAt.canLay_of_shaped h
end
section
variable {X : Cx}
/-- a comparison of two frozen data -/
def rC (K : PySem.W.Frag) (f : D → D → Option Bool) : R2 := fun x y H Q => ∃ d1 z1 d2 z2 b, Rep K H d1 0 x [] z1 ∧ Rep K H d2 0 y [] z2 ∧ f d1 d2 = some b ∧ Q (.bl b) H
theorem scal_rep {K : PySem.W.Frag} {H : Hp} {d e : D} {v w : V} {z y : List Addr} {b : Bool} (r : Rep K H d 0 v [] z) (s : Rep K H e 0 w [] y) (h : scalD d e = some b) : scal v w = true ∧ decide (v = w) = b := by
  cases d <;> cases e <;> simp only [scalD, Option.some.injEq, reduceCtorEq] at h <;> simp only [Rep] at r s <;> rw [r.1, s.1] <;> subst h <;> refine ⟨rfl, ?_⟩ <;>
    first | exact dec_int | exact dec_bl | exact dec_str | (rw [decide_eq_true]; rfl) | (exact decide_eq_false (fun q => nomatch q))
theorem eq_ok (hu : X.A.units + 64 < cLine) : OpR X (compareOp .Eq) (rC X.K eqD) := by
  intro pins s σ H x y v u Q I rx ry ⟨d1, z1, d2, z2, b, r1, r2, e, q⟩
  unfold eqD at e
  split at e
  · rename_i c h
    cases e
    obtain ⟨h1, h2⟩ := scal_rep r1 r2 h
    exact op_eq pins s σ H x y v u Q I rx ry ⟨h1, by rw [h2]; exact q⟩
  · split at e
    · rename_i p q' hp hq
      split at e
      · rename_i h
        cases e
        simp only [Bool.and_eq_true] at h
        exact op_eqD hu pins s σ H x y v u Q I rx ry ⟨p, q', r1.dp _ _ _ _ hp (shaped_lay h.1), r2.dp _ _ _ _ hq (shaped_lay h.2), h.1, h.2, q⟩
      · cases e
    · cases e
theorem ne_ok (hu : X.A.units + 64 < cLine) : OpR X (compareOp .NotEq) (rC X.K fun a b => (eqD a b).map (!·)) := by
  intro pins s σ H x y v u Q I rx ry ⟨d1, z1, d2, z2, b, r1, r2, e, q⟩
  simp only [Option.map_eq_some_iff] at e
  obtain ⟨b, e, rfl⟩ := e
  unfold eqD at e
  split at e
  · rename_i c h
    cases e
    obtain ⟨h1, h2⟩ := scal_rep r1 r2 h
    exact op_ne pins s σ H x y v u Q I rx ry ⟨h1, by rw [h2]; exact q⟩
  · split at e
    · rename_i p q' hp hq
      split at e
      · rename_i h
        cases e
        simp only [Bool.and_eq_true] at h
        exact op_neD hu pins s σ H x y v u Q I rx ry ⟨p, q', r1.dp _ _ _ _ hp (shaped_lay h.1), r2.dp _ _ _ _ hq (shaped_lay h.2), h.1, h.2, q⟩
      · cases e
    · cases e
theorem toPy_lst {l : List D} {ps : List PyData} (h : toPyL l = some ps) : toPy (.lst l) = some (.list ps) := by simp [toPy, h]
theorem in_ok (hu : X.A.units + 65 < cLine) : OpR X (compareOp .In) (rC X.K inD) := by
  intro pins s σ H x y v u Q I rx ry ⟨d1, z1, d2, z2, b, r1, r2, e, q⟩
  cases d2 with
  | lst l =>
    simp only [inD] at e
    split at e
    · rename_i h
      cases e
      simp only [Bool.and_eq_true] at h
      obtain ⟨a, vs, z', rfl, hq, rl, rfl⟩ := r2.toLst
      refine op_in_seq pins s σ H x _ v u Q I rx ry ⟨a, vs, rfl, .inl (SqL.of hq), flat_rep r1 h.1, flat_repL rl h.2, ?_⟩
      simp only [Bool.false_eq_true, if_false]
      rw [memF_rep r1 h.1 rl h.2]; exact q
    · split at e
      · rename_i p ps hp hps
        split at e
        · rename_i h
          cases e
          simp only [Bool.and_eq_true] at h
          exact op_inD hu pins s σ H x y v u Q I rx ry ⟨p, ps, r1.dp _ _ _ _ hp (shaped_lay h.1), r2.dp _ _ _ _ (toPy_lst hps) (shaped_lay h.2), h.1, h.2, q⟩
        · cases e
      · cases e
  | tup l =>
    simp only [inD] at e
    split at e
    · rename_i h
      cases e
      simp only [Bool.and_eq_true] at h
      obtain ⟨a, vs, rfl, hq, rl⟩ := r2.toTup
      refine op_in_seq pins s σ H x _ v u Q I rx ry ⟨a, vs, rfl, .inr (SqT.of hq), flat_rep r1 h.1, flat_repL rl h.2, ?_⟩
      simp only [Bool.false_eq_true, if_false]
      rw [memF_rep r1 h.1 rl h.2]; exact q
    · cases e
  | ctup l =>
    simp only [inD] at e
    split at e
    · rename_i h
      cases e
      simp only [Bool.and_eq_true] at h
      obtain ⟨a, vs, rfl, hq, rl⟩ := r2.toCtup
      refine op_in_seq pins s σ H x _ v u Q I rx ry ⟨a, vs, rfl, .inr hq, flat_rep r1 h.1, flat_repL rl h.2, ?_⟩
      simp only [Bool.false_eq_true, if_false]
      rw [memF_rep r1 h.1 rl h.2]; exact q
    · cases e
  | dk l =>
    obtain ⟨a, o, rfl, g, ho⟩ := dget_rep r2 r1 e (.inl ⟨l, rfl⟩)
    obtain rfl : u = .ref a := ry
    exact d_in (by omega) I g rx fun s' I' => ⟨.bl _, H, I', rfl, by rw [ho]; exact q⟩
  | dt l =>
    obtain ⟨a, o, rfl, g, ho⟩ := dget_rep r2 r1 e (.inr ⟨l, rfl⟩)
    obtain rfl : u = .ref a := ry
    exact d_in (by omega) I g rx fun s' I' => ⟨.bl _, H, I', rfl, by rw [ho]; exact q⟩
  | _ => simp [inD] at e
theorem notin_ok (hu : X.A.units + 65 < cLine) : OpR X (compareOp .NotIn) (rC X.K fun a b => (inD a b).map (!·)) := by
  intro pins s σ H x y v u Q I rx ry ⟨d1, z1, d2, z2, b, r1, r2, e, q⟩
  simp only [Option.map_eq_some_iff] at e
  obtain ⟨b, e, rfl⟩ := e
  cases d2 with
  | lst l =>
    simp only [inD] at e
    split at e
    · rename_i h
      cases e
      simp only [Bool.and_eq_true] at h
      obtain ⟨a, vs, z', rfl, hq, rl, rfl⟩ := r2.toLst
      refine op_notIn_seq pins s σ H x _ v u Q I rx ry ⟨a, vs, rfl, .inl (SqL.of hq), flat_rep r1 h.1, flat_repL rl h.2, ?_⟩
      simp only [if_true]
      rw [memF_rep r1 h.1 rl h.2]; exact q
    · split at e
      · rename_i p ps hp hps
        split at e
        · rename_i h
          cases e
          simp only [Bool.and_eq_true] at h
          exact op_notInD hu pins s σ H x y v u Q I rx ry ⟨p, ps, r1.dp _ _ _ _ hp (shaped_lay h.1), r2.dp _ _ _ _ (toPy_lst hps) (shaped_lay h.2), h.1, h.2, q⟩
        · cases e
      · cases e
  | tup l =>
    simp only [inD] at e
    split at e
    · rename_i h
      cases e
      simp only [Bool.and_eq_true] at h
      obtain ⟨a, vs, rfl, hq, rl⟩ := r2.toTup
      refine op_notIn_seq pins s σ H x _ v u Q I rx ry ⟨a, vs, rfl, .inr (SqT.of hq), flat_rep r1 h.1, flat_repL rl h.2, ?_⟩
      simp only [if_true]
      rw [memF_rep r1 h.1 rl h.2]; exact q
    · cases e
  | ctup l =>
    simp only [inD] at e
    split at e
    · rename_i h
      cases e
      simp only [Bool.and_eq_true] at h
      obtain ⟨a, vs, rfl, hq, rl⟩ := r2.toCtup
      refine op_notIn_seq pins s σ H x _ v u Q I rx ry ⟨a, vs, rfl, .inr hq, flat_rep r1 h.1, flat_repL rl h.2, ?_⟩
      simp only [if_true]
      rw [memF_rep r1 h.1 rl h.2]; exact q
    · cases e
  | dk l =>
    obtain ⟨a, o, rfl, g, ho⟩ := dget_rep r2 r1 e (.inl ⟨l, rfl⟩)
    obtain rfl : u = .ref a := ry
    exact d_notIn (by omega) I g rx fun s' I' => ⟨.bl _, H, I', rfl, by rw [ho]; exact q⟩
  | dt l =>
    obtain ⟨a, o, rfl, g, ho⟩ := dget_rep r2 r1 e (.inr ⟨l, rfl⟩)
    obtain rfl : u = .ref a := ry
    exact d_notIn (by omega) I g rx fun s' I' => ⟨.bl _, H, I', rfl, by rw [ho]; exact q⟩
  | _ => simp [inD] at e
theorem is_rep {K : PySem.W.Frag} {H : Hp} {d : D} {v : V} {z : List Addr} (r : Rep K H d 0 v [] z) : decide (v = .non) = isNon d := by
  cases d with
  | non => cases r.toNon; rfl
  | bl b => cases r.toBl; exact decide_eq_false (fun q => nomatch q)
  | int b => cases r.toInt; exact decide_eq_false (fun q => nomatch q)
  | str b => cases r.toStr; exact decide_eq_false (fun q => nomatch q)
  | tup l => obtain ⟨a, vs, rfl, _⟩ := r.toTup; exact decide_eq_false (fun q => nomatch q)
  | ctup l => obtain ⟨a, vs, rfl, _⟩ := r.toCtup; exact decide_eq_false (fun q => nomatch q)
  | lst l => obtain ⟨a, vs, _, rfl, _⟩ := r.toLst; exact decide_eq_false (fun q => nomatch q)
  | dk l => obtain ⟨a, vs, _, rfl, _⟩ := r.toDk; exact decide_eq_false (fun q => nomatch q)
  | dt l => obtain ⟨a, vs, _, rfl, _⟩ := r.toDt; exact decide_eq_false (fun q => nomatch q)
  | ty n => simp only [Rep] at r; rw [r.1]; exact decide_eq_false (fun q => nomatch q)
  | scr l => simp only [Rep] at r; obtain ⟨a, rfl, _⟩ := r; exact decide_eq_false (fun q => nomatch q)
  | ins c fs => simp only [Rep] at r; obtain ⟨a, C, dx, vs, rfl, _⟩ := r; exact decide_eq_false (fun q => nomatch q)
theorem cmp_ok (hu : X.A.units + 65 < cLine) (o : CmpOp) : OpR X (compareOp o) (rC X.K (cmpD o)) := by
  cases o with
  | Eq => exact eq_ok (by omega)
  | NotEq => exact ne_ok (by omega)
  | In => exact in_ok hu
  | NotIn => exact notin_ok hu
  | Lt =>
    intro pins s σ H x y v u Q I rx ry ⟨d1, z1, d2, z2, b, r1, r2, e, q⟩
    simp only [cmpD] at e
    split at e
    · cases e; cases r1.toInt; cases r2.toInt
      exact op_lt pins s σ H _ _ v u Q I rx ry ⟨_, _, rfl, rfl, q⟩
    · cases e
  | LtE =>
    intro pins s σ H x y v u Q I rx ry ⟨d1, z1, d2, z2, b, r1, r2, e, q⟩
    simp only [cmpD] at e
    split at e
    · cases e; cases r1.toInt; cases r2.toInt
      exact op_le pins s σ H _ _ v u Q I rx ry ⟨_, _, rfl, rfl, q⟩
    · cases e
  | Gt =>
    intro pins s σ H x y v u Q I rx ry ⟨d1, z1, d2, z2, b, r1, r2, e, q⟩
    simp only [cmpD] at e
    split at e
    · cases e; cases r1.toInt; cases r2.toInt
      exact op_gt pins s σ H _ _ v u Q I rx ry ⟨_, _, rfl, rfl, q⟩
    · cases e
  | GtE =>
    intro pins s σ H x y v u Q I rx ry ⟨d1, z1, d2, z2, b, r1, r2, e, q⟩
    simp only [cmpD] at e
    split at e
    · cases e; cases r1.toInt; cases r2.toInt
      exact op_ge pins s σ H _ _ v u Q I rx ry ⟨_, _, rfl, rfl, q⟩
    · cases e
  | Is =>
    intro pins s σ H x y v u Q I rx ry ⟨d1, z1, d2, z2, b, r1, r2, e, q⟩
    simp only [cmpD] at e
    split at e
    · cases e
      cases r2.toNon
      exact op_isN pins s σ H _ _ v u Q I rx ry ⟨rfl, by rw [is_rep r1]; exact q⟩
    · split at e
      · cases e
        cases r1.toBl
        cases r2.toBl
        rename_i y _ x
        exact op_is_bl pins s σ H _ _ v u Q I rx ry ⟨x, y, rfl, rfl, by rw [show decide (x = y) = (x == y) by cases x <;> cases y <;> rfl]; exact q⟩
      · cases e
    · cases e
  | IsNot =>
    intro pins s σ H x y v u Q I rx ry ⟨d1, z1, d2, z2, b, r1, r2, e, q⟩
    simp only [cmpD] at e
    split at e
    · cases e
      cases r2.toNon
      refine op_notN pins s σ H _ _ v u Q I rx ry ⟨rfl, ?_⟩
      rw [is_rep r1]; exact q
    · split at e
      · cases e
        cases r1.toBl
        cases r2.toBl
        rename_i y _ x
        exact op_isnot_bl pins s σ H _ _ v u Q I rx ry ⟨x, y, rfl, rfl, by rw [show decide (x = y) = (x == y) by cases x <;> cases y <;> rfl]; exact q⟩
      · cases e
    · cases e
end
end Pi
/-! Pi5s: sorted of tuples of ints, any number of them. -/
namespace Pi
open PySem L2 PyProof.Rows Srt SrtO
theorem lexLt_irr : ∀ l : List Int, lexLt l l = false
  | [] => rfl
  | x :: l => by simp [lexLt, lexLt_irr l]
theorem lexLt_asym : ∀ a b : List Int, lexLt a b = true → lexLt b a = false
  | [], [], h => by simp [lexLt] at h
  | [], _ :: _, _ => rfl
  | _ :: _, [], h => by simp [lexLt] at h
  | x :: a, y :: b, h => by
    simp only [lexLt] at h ⊢
    by_cases e : x = y
    · subst e
      simp only [beq_self_eq_true, if_true] at h ⊢
      exact lexLt_asym a b h
    · rw [if_neg (by simpa using e)] at h
      rw [if_neg (by simpa using fun q => e q.symm)]
      simp only [decide_eq_true_eq, decide_eq_false_iff_not] at h ⊢
      omega
/-- not below, twice -/
theorem lexLt_ntr : ∀ a b c : List Int, lexLt b a = false → lexLt c b = false → lexLt c a = false
  | [], [], c, _, h => h
  | [], _ :: _, [], _, h => by simp [lexLt] at h
  | [], _ :: _, _ :: _, _, _ => rfl
  | _ :: _, [], _, h, _ => by simp [lexLt] at h
  | _ :: _, _ :: _, [], _, h => by simp [lexLt] at h
  | x :: a, y :: b, z :: c, h1, h2 => by
    simp only [lexLt] at h1 h2 ⊢
    by_cases e1 : y = x
    · subst e1
      simp only [beq_self_eq_true, if_true] at h1
      by_cases e2 : z = y
      · subst e2
        simp only [beq_self_eq_true, if_true] at h2 ⊢
        exact lexLt_ntr a b c h1 h2
      · rw [if_neg (by simpa using e2)] at h2 ⊢
        exact h2
    · rw [if_neg (by simpa using e1)] at h1
      simp only [decide_eq_false_iff_not] at h1
      by_cases e2 : z = y
      · subst e2
        rw [if_neg (by simpa using e1)]
        simp only [decide_eq_false_iff_not]; exact h1
      · rw [if_neg (by simpa using e2)] at h2
        simp only [decide_eq_false_iff_not] at h2
        rw [if_neg (by simp; omega)]
        simp only [decide_eq_false_iff_not]; omega
theorem lexLt_tot : ∀ a b : List Int, lexLt a b = false → lexLt b a = false → a = b
  | [], [], _, _ => rfl
  | [], _ :: _, h, _ => by simp [lexLt] at h
  | _ :: _, [], _, h => by simp [lexLt] at h
  | x :: a, y :: b, h1, h2 => by
    simp only [lexLt] at h1 h2
    by_cases e : x = y
    · subst e
      simp only [beq_self_eq_true, if_true] at h1 h2
      rw [lexLt_tot a b h1 h2]
    · rw [if_neg (by simpa using e)] at h1
      rw [if_neg (by simpa using fun q => e q.symm)] at h2
      simp only [decide_eq_false_iff_not] at h1 h2
      omega
theorem swo_lexL {α : Type} (k : α → List Int) : Swo fun v u => lexLt (k v) (k u) := ⟨fun _ _ => lexLt_asym _ _, fun _ _ _ => lexLt_ntr _ _ _⟩
def IsTI (h : Heap) (v : Value) (l : List Int) : Prop := ∃ a o its n, v = .ref a ∧ h.get? a = some o ∧ o.cls = .type "tuple" ∧ o.data = .seq its n ∧ Vals (l.map V.int) its.toList ∧ l ≠ []
theorem IsTI.keeps {h h' : Heap} {v : Value} {l : List Int} (x : IsTI h v l) (k : ∀ b o, h.get? b = some o → o.cls = .type "tuple" → h'.get? b = some o) : IsTI h' v l := by
  obtain ⟨a, o, its, n, e, ho, hc, hd, r, hl⟩ := x
  exact ⟨a, o, its, n, e, k a o ho hc, hc, hd, r, hl⟩
section
variable {prog : Program} {w : World} {A : Around} {E : Value → Shared → Prop} {s : Shared}
theorem kat_ints {Q : Bool → Shared → Prop} : ∀ (xs ys : List Int) (us vs : List Value) (i : Nat), Vals (xs.map V.int) us → Vals (ys.map V.int) vs → Q (lexLt xs ys) s →
    PySem.W.KatLex prog w A true (decide (xs.length < ys.length)) Q (us.zip vs) i s
  | [], [], _, _, _, .nil, .nil, q => PySem.W.kat_nil (by simpa [lexLt] using q)
  | [], _ :: _, _, _, _, .nil, .cons _ _, q => PySem.W.kat_nil (by simpa [lexLt] using q)
  | _ :: _, [], _, _, _, .cons _ _, .nil, q => PySem.W.kat_nil (by simpa [lexLt] using q)
  | x :: xs, y :: ys, _, _, i, .cons ru r1, .cons rv r2, q => by
    obtain ⟨t, rfl⟩ := ru
    obtain ⟨t', rfl⟩ := rv
    refine PySem.W.kat_cons (SeqAt.EqAt.int_int x t y t' prog w _ _ ?_)
    refine PySem.W.kat_go (fun e1 => ?_) (fun e1 => ?_)
    · have ex : x = y := by simpa using e1
      subst ex
      have q' : Q (lexLt xs ys) s := by simpa [lexLt] using q
      have := kat_ints xs ys _ _ (i + 1) r1 r2 q'
      refine PySem.W.kat_yes ?_
      have e : decide ((x :: xs).length < (x :: ys).length) = decide (xs.length < ys.length) := by simp
      rw [e]
      exact this
    · have ex : ¬ x = y := by simpa using e1
      have q' : Q (decide (x < y)) s := by simpa [lexLt, ex] using q
      by_cases hi : i = 0
      · subst hi
        exact PySem.W.kat_no (oneLt_int q')
      · have : (true && i == 0) = false := by simpa using hi
        refine PySem.W.kat_no ?_
        rw [this]
        exact PySem.W.kat_one _ _ (PyProof.Rows.lt_int q')
theorem tup_cmp {vs : List Value} {k : Value → List Int} (hp : ∀ v ∈ vs, IsTI s.heap v (k v)) : Cmp prog w A s (tuples' true) (fun p => p.1 ∈ vs) (lt2 fun v u => lexLt (k v) (k u)) := by
  intro p q hm hm'
  have h1 := hp _ hm
  have h2 := hp _ hm'
  show wpAny (model prog w) A (keyLt' (tuples' true) p.1 q.1) (fun r s' => s' = s ∧ r = lexLt (k p.1) (k q.1)) (fun _ _ => False) s
  generalize k p.1 = x at h1 ⊢
  generalize k q.1 = y at h2 ⊢
  obtain ⟨a, o, its, n, e, ho, hc, hd, r1, _⟩ := h1
  obtain ⟨a', o', its', n', e', ho', hc', hd', r2, _⟩ := h2
  rw [e, e']
  refine PySem.W.kat_lt ho hd ho' hd' ?_
  have l1 : its.size = x.length := by have := r1.length; simpa using this.symm
  have l2 : its'.size = y.length := by have := r2.length; simpa using this.symm
  rw [l1, l2]
  exact kat_ints x y _ _ 0 r1 r2 ⟨rfl, rfl⟩
theorem firsts_tup {h : Heap} : ∀ {vs : List Value}, (∀ v ∈ vs, ∃ l, IsTI h v l) → ∃ fs : List Value, PySem.W.KatTups h vs fs ∧ fs.length = vs.length ∧ ∀ f ∈ fs, ∃ x t, f = Value.int x t
  | [], _ => ⟨[], PySem.W.KatTups.nil, rfl, fun _ hm => by simp at hm⟩
  | v :: vs, hp => by
    obtain ⟨fs, h1, h2, h3⟩ := firsts_tup (vs := vs) fun v' hm => hp v' (List.mem_cons_of_mem _ hm)
    obtain ⟨l, a, o, its, n, e, ho, hc, hd, r, hl⟩ := hp v (List.mem_cons_self ..)
    subst e
    obtain ⟨x, l', rfl⟩ : ∃ x l', l = x :: l' := by
      cases l with
      | nil => exact absurd rfl hl
      | cons x l' => exact ⟨x, l', rfl⟩
    obtain ⟨u, us, e⟩ : ∃ u us, its.toList = u :: us := by
      cases q : its.toList with
      | nil => rw [q] at r; cases r
      | cons u us => exact ⟨u, us, rfl⟩
    rw [e] at r
    cases r with
    | cons ru rr =>
    obtain ⟨t, rfl⟩ := ru
    have e0 : its[0]? = some (.int x t) := by rw [← Array.getElem?_toList, e]; rfl
    refine ⟨.int x t :: fs, PySem.W.KatTups.cons ho hc hd e0 h1, by rw [List.length_cons, List.length_cons, h2], fun f hm => ?_⟩
    rcases List.mem_cons.mp hm with rfl | hm
    · exact ⟨x, t, rfl⟩
    · exact h3 f hm
theorem tups_sortableO {a : Addr} {vs : List Value} {k : Value → List Int} (h0 : 0 < vs.length) (hp : ∀ v ∈ vs, IsTI s.heap v (k v)) (ha : ∀ o, s.heap.get? a = some o → o.cls ≠ .type "tuple") : SortableO prog w A s a vs fun v u => lexLt (k v) (k u) := by
  intro h' keep
  have hp' : ∀ v ∈ vs, IsTI h' v (k v) := fun v hm => (hp v hm).keeps fun b o e c => keep b o (fun z => by subst z; exact ha o e c) e
  obtain ⟨fs, h1, h2, h3⟩ := firsts_tup fun v hm => ⟨_, hp' v hm⟩
  refine ⟨tuples' true, fun Q E hq => ?_, tup_cmp hp'⟩
  refine PySem.W.kat_kind (T := .type "int") h1 (by omega) (fun f hm => ?_) (by rfl) ?_
  · obtain ⟨x, t, rfl⟩ := h3 f hm
    exact PySem.W.Looks.now
  · have e : (Value.type "int" != Value.type "tuple") = true := by first | decide +kernel | rfl | decide
    rw [e]
    exact hq
theorem sorted_tupsO {l : Addr} {vs : List Value} {k : Value → List Int} {Q : Value → Shared → Prop} (hl : s.heap.IsList l vs.toArray) (hz : vs.length ≤ sizeLine) (hp : ∀ v ∈ vs, IsTI s.heap v (k v))
    (h : ∀ (h' : Heap) (d : Addr) (out : List Value), Srtd (fun v u => lexLt (k v) (k u)) out → Stb (fun v u => lexLt (k v) (k u)) out vs → (∀ b o, s.heap.get? b = some o → h'.get? b = some o) → s.heap.objs.size ≤ d → (∃ n, h'.get? d = some (seqObj "list" out.toArray n)) → Q (.ref d) { s with heap := h' }) :
    wpAny (model prog w) A (call (.builtin "sorted") [.ref l]) Q E s := by
  refine sorted_ord (swo_lexL k) hl hz (fun h2 h₁ a ha kk => ?_) fun out hs hb => ?_
  · refine tups_sortableO (s := { s with heap := h₁ }) (by omega) (fun v hm => (hp v hm).keeps fun b o e _ => (kk b o e).2) fun o e => ?_
    have e' : some o = some (seqObj "list" vs.toArray 0) := e.symm.trans ha
    cases e'
    intro c
    exact absurd (Value.type.inj c) (by decide)
  · exact h _ _ out hs hb (fun b o e => sortedAll_old e) (Nat.le_succ _) (sortedAll_at s.heap vs out.toArray)
end
def ltT (k : V → List Int) : V → V → Bool := fun v u => lexLt (k v) (k u)
def rSortedT (K : PySem.W.Frag) : List V → Hp → VK → Prop := fun vs H Q => ∃ (a : Addr) (xs : List V) (k : V → List Int), vs = [.ref a] ∧ SqL K H a xs ∧ (∀ x ∈ xs, ∃ t, x = .ref t ∧ H t = some (.tup ((k x).map V.int)) ∧ k x ≠ []) ∧
  ∀ p out, Srtd (ltT k) out → out.Perm xs → H p = none → Q (.ref p) (upd H p (.lst out))
section
variable {X : Cx}
theorem cr_sortedT : CallR X (.builtin "sorted") (rSortedT X.K) := by
  intro pins s σ H vs us Q I r h
  obtain ⟨a, xs, k, rfl, hs, hx, q⟩ := h
  obtain ⟨its, rv, hl, hz⟩ := I.list hs
  obtain ⟨u, rfl, ru⟩ := vals1 r
  obtain rfl : u = Value.ref a := ru
  obtain ⟨e1, e2⟩ := refs_back rv fun x m => by
    obtain ⟨t, e, _⟩ := hx x m
    exact ⟨t, e⟩
  refine sorted_tupsO (k := fun u => k (backV u)) hl.isList (by rw [← rv.length]; exact hz) (fun v hv => ?_) fun h' d out h1 h2 kp hd hn => ?_
  · obtain ⟨t, rfl⟩ := e2 v hv
    have hm : V.ref t ∈ xs := by rw [e1]; exact List.mem_map.mpr ⟨_, hv, rfl⟩
    obtain ⟨t', e, ht, hne⟩ := hx _ hm
    cases e
    obtain ⟨_, its2, r2, o, ho, hc, n, hd⟩ := I.hok _ _ ht
    exact ⟨t, o, _, n, rfl, ho, hc, hd, (show Vals (List.map V.int (k (V.ref t))) _ from by simpa using r2), hne⟩
  · have h3 : ∀ u ∈ out, ∃ a, u = Value.ref a := fun u hu => e2 u (h2.perm.mem_iff.mp hu)
    obtain ⟨n, hn⟩ := hn
    have hb : (out.map backV).Perm xs := by
      rw [e1]
      exact h2.perm.map backV
    refine ⟨.ref d, upd H d (.lst (out.map backV)), I.laid (t' := s.toks) kp hd ⟨?_, out, n, vals_back h3, hn⟩, rfl, q d _ (SrtO.srtd_map h1) hb (I.hok.fresh hd)⟩
    rw [hb.length_eq]; exact hz
end
/-! ### plain lists -/
theorem insertT_perm (x : List Int) : ∀ l, (insertT x l).Perm (x :: l)
  | [] => .refl _
  | y :: r => by
    simp only [insertT]
    split
    · exact ((insertT_perm x r).cons y).trans (.swap x y r)
    · exact .refl _
theorem sortT_perm : ∀ l, (sortT l).Perm l
  | [] => .refl _
  | x :: r => (insertT_perm x _).trans ((sortT_perm r).cons x)
def SrtT (l : List (List Int)) : Prop := l.Pairwise fun x y => lexLt y x = false
theorem insertT_sorted (x : List Int) : ∀ l, SrtT l → SrtT (insertT x l)
  | [], _ => by simp [insertT, SrtT]
  | y :: r, h => by
    simp only [insertT]
    have h' := List.pairwise_cons.mp h
    split
    · rename_i hx
      refine List.pairwise_cons.mpr ⟨fun z m => ?_, insertT_sorted x r h'.2⟩
      rcases List.mem_cons.mp ((insertT_perm x r).mem_iff.mp m) with rfl | m
      · exact lexLt_asym _ _ hx
      · exact h'.1 z m
    · rename_i hx
      refine List.pairwise_cons.mpr ⟨fun z m => ?_, h⟩
      rcases List.mem_cons.mp m with rfl | m
      · simpa using hx
      · exact lexLt_ntr x y z (by simpa using hx) (h'.1 z m)
theorem sortT_sorted : ∀ l, SrtT (sortT l)
  | [] => List.Pairwise.nil
  | x :: r => insertT_sorted x _ (sortT_sorted r)
theorem sortT_eq {a l : List (List Int)} (p : a.Perm l) (s : SrtT a) : a = sortT l :=
  (p.trans (sortT_perm l).symm).eq_of_pairwise (fun _ _ _ _ h1 h2 => lexLt_tot _ _ h2 h1) s (sortT_sorted l)
end Pi
/-! Pi5: places, slices, truth, built-in functions, repr. -/
namespace Pi
open PySem L2

/-! ### data read in the heap -/
section
variable {X : Cx} {pins : List (Addr × Obj)} {σ : St} {H : Hp} {s : Shared}
/-- addresses of lists and dicts, sys.modules not among them -/
abbrev NoSys (as : List Addr) : Prop := ∀ a ∈ as, (a == sysModules) = false
theorem NoSys.mem {as : List Addr} (h : NoSys as) : sysModules ∉ as := fun m => by have := h _ m; simp at this
theorem kV_reads {h : Heap} {k : Key} {u : Value} (r : keyIs k u = true) : Reads h u (keyPy k) [] := by
  rcases keyIs_shape r with ⟨i, t, rfl, rfl⟩ | ⟨x, t, rfl, rfl⟩
  · exact .int i t
  · exact .str x t
mutual
theorem Rep.reads (I : Inv X pins σ H s) : ∀ (d : D) (v : V) (z : List Addr) (p : PyData) (u : Value), Rep X.K H d 0 v [] z → toPy d = some p → RelV v u → ∃ as, Reads s.heap u p as ∧ (noListP p = true → NoSys as)
  | .non, v, z, p, u, r, t, q => by
    cases r.toNon; simp only [toPy, Option.some.injEq] at t; subst t
    obtain rfl : u = .none := q
    exact ⟨[], .none, fun _ _ m => absurd m List.not_mem_nil⟩
  | .bl b, v, z, p, u, r, t, q => by
    cases r.toBl; simp only [toPy, Option.some.injEq] at t; subst t
    obtain rfl : u = .bool b := q
    exact ⟨[], .bool b, fun _ _ m => absurd m List.not_mem_nil⟩
  | .int b, v, z, p, u, r, t, q => by
    cases r.toInt; simp only [toPy, Option.some.injEq] at t; subst t
    obtain ⟨tk, rfl⟩ := q
    exact ⟨[], .int b tk, fun _ _ m => absurd m List.not_mem_nil⟩
  | .str b, v, z, p, u, r, t, q => by
    cases r.toStr; simp only [toPy, Option.some.injEq] at t; subst t
    obtain ⟨tk, rfl⟩ := q
    exact ⟨[], .str b tk, fun _ _ m => absurd m List.not_mem_nil⟩
  | .tup l, v, z, p, u, r, t, q => by
    obtain ⟨a, vs, rfl, qa, rl⟩ := r.toTup
    simp only [toPy, Option.map_eq_some_iff] at t
    obtain ⟨ps, t, rfl⟩ := t
    obtain rfl : u = .ref a := q
    obtain ⟨its, rv, hT, _⟩ := I.tuple (SqT.of qa)
    obtain ⟨as, ra, ns⟩ := RepL.reads I l vs z ps its rl t rv
    obtain ⟨o, e, c, n, dd⟩ := hT
    exact ⟨as, .tuple e c dd (by simpa using ra), by simpa only [noListP] using ns⟩
  | .ctup l, v, z, p, u, r, t, q => by
    obtain ⟨a, vs, rfl, qa, rl⟩ := r.toCtup
    simp only [toPy, Option.map_eq_some_iff] at t
    obtain ⟨ps, t, rfl⟩ := t
    obtain rfl : u = .ref a := q
    obtain ⟨its, rv, hT, _⟩ := I.tuple qa
    obtain ⟨as, ra, ns⟩ := RepL.reads I l vs z ps its rl t rv
    obtain ⟨o, e, c, n, dd⟩ := hT
    exact ⟨as, .tuple e c dd (by simpa using ra), by simpa only [noListP] using ns⟩
  | .lst l, v, z, p, u, r, t, q => by
    obtain ⟨a, vs, y, rfl, qa, rl, rfl⟩ := r.toLst
    simp only [toPy, Option.map_eq_some_iff] at t
    obtain ⟨ps, t, rfl⟩ := t
    obtain rfl : u = .ref a := q
    obtain ⟨_, its, n, rv, e⟩ := lst_rd I (.inl qa)
    obtain ⟨as, ra, ns⟩ := RepL.reads I l vs y ps its rl t rv
    exact ⟨a :: as, .list e rfl rfl (by simpa using ra), by simp [noListP]⟩
  | .dk l, v, z, p, u, r, t, q => by
    obtain ⟨a, vs, y, rfl, qa, rl, rfl⟩ := r.toDk
    simp only [toPy, Option.map_eq_some_iff] at t
    obtain ⟨ps, t, rfl⟩ := t
    obtain rfl : u = .ref a := q
    obtain ⟨_, hsys, ws, kv, o, es, ep, e, ex, ed, _, prs, _⟩ := dk_rd I.hok qa
    obtain ⟨as, bs, r1, r2, n1, ns⟩ := RepK.reads I l vs y ps ws es.toList rl t kv prs
    refine ⟨a :: as ++ bs, .dict e ex.1 ed r1 r2, fun hn => ?_⟩
    simp only [noListP] at hn
    intro b m
    simp only [List.cons_append, List.mem_cons, List.mem_append] at m
    rcases m with rfl | m | m
    · exact hsys
    · rw [n1] at m; exact absurd m List.not_mem_nil
    · exact ns hn b m
  | .dt _, _, _, _, _, _, t, _ => by simp [toPy] at t
  | .ins _ _, _, _, _, _, _, t, _ => by simp [toPy] at t
  | .ty _, _, _, _, _, _, t, _ => by simp [toPy] at t
  | .scr _, _, _, _, _, _, t, _ => by simp [toPy] at t
theorem RepL.reads (I : Inv X pins σ H s) : ∀ (l : List D) (vs : List V) (z : List Addr) (ps : List PyData) (us : List Value), RepL X.K H l 0 vs [] z → toPyL l = some ps → Vals vs us → ∃ as, ReadsAll s.heap us ps as ∧ (noListPs ps = true → NoSys as)
  | [], vs, z, ps, us, r, t, q => by
    simp only [RepL] at r
    simp only [toPyL, Option.some.injEq] at t
    obtain ⟨rfl, _, _⟩ := r
    cases q; subst t
    exact ⟨[], .nil, fun _ _ m => absurd m List.not_mem_nil⟩
  | d :: l, vs, z, ps, us, r, t, q => by
    simp only [RepL] at r
    obtain ⟨w, vs', g1, g2, y1, y2, e0, e1, e2, s1, s2⟩ := r
    have h1 := Rep.zero _ _ _ _ s1
    have h2 := RepL.zero _ _ _ _ s2
    subst e0 h1 h2
    simp only [toPyL] at t
    split at t
    · rename_i p ps' a b
      cases t
      cases q with
      | cons q1 q2 =>
        obtain ⟨as, ra, na⟩ := Rep.reads I d w y1 _ _ s1 a q1
        obtain ⟨bs, rb, nb⟩ := RepL.reads I l vs' y2 _ _ s2 b q2
        refine ⟨as ++ bs, .cons ra rb, fun hn => ?_⟩
        simp only [noListPs, Bool.and_eq_true] at hn
        exact fun c m => (List.mem_append.mp m).elim (na hn.1 c) (nb hn.2 c)
    · cases t
theorem RepK.reads (I : Inv X pins σ H s) : ∀ (l : List (Key × D)) (vs : List (Key × V)) (z : List Addr) (ps : List (PyData × PyData)) (us : List (Key × Value)) (es : List DictEntry), RepK X.K H l 0 vs [] z → toPyK l = some ps → KV vs us → Pairs (mixKind X.prog X.w) es us →
    ∃ as bs, ReadsAll s.heap (es.map (·.key)) (ps.map (·.1)) as ∧ ReadsAll s.heap (es.map (·.val)) (ps.map (·.2)) bs ∧ as = [] ∧ (noListPk ps = true → NoSys bs)
  | [], vs, z, ps, us, es, r, t, q, pr => by
    simp only [RepK] at r
    simp only [toPyK, Option.some.injEq] at t
    obtain ⟨rfl, _, _⟩ := r
    cases q; cases pr; subst t
    exact ⟨[], [], .nil, .nil, rfl, fun _ _ m => absurd m List.not_mem_nil⟩
  | (k, d) :: l, vs, z, ps, us, es, r, t, q, pr => by
    simp only [RepK] at r
    obtain ⟨w, vs', g1, g2, y1, y2, e0, e1, e2, s1, s2⟩ := r
    have h1 := Rep.zero _ _ _ _ s1
    have h2 := RepK.zero _ _ _ _ s2
    subst e0 h1 h2
    simp only [toPyK] at t
    split at t
    · rename_i p ps' a b
      cases t
      cases q with
      | cons q1 q2 =>
        cases pr with
        | cons k1 k2 k3 =>
          obtain ⟨as, bs, ra, rb, na, nb⟩ := RepK.reads I l vs' y2 _ _ _ s2 b q2 k3
          obtain ⟨cs, rc, nc⟩ := Rep.reads I d w y1 _ _ s1 a q1.2
          rw [← k2] at rc
          subst na
          refine ⟨[], cs ++ bs, ?_, ?_, rfl, fun hn => ?_⟩
          · have hk : k = _ := q1.1
            rw [← hk] at k1
            exact .cons (as := []) (kV_reads k1) ra
          · exact .cons rc rb
          · simp only [noListPk, Bool.and_eq_true] at hn
            exact fun c m => (List.mem_append.mp m).elim (nc hn.1.2 c) (nb hn.2 c)
    · cases t
end
end
section
variable {X : Cx}
theorem inv_kept {pins : List (Addr × Obj)} {σ : St} {H : Hp} {s : Shared} (I : Inv X pins σ H s) {h' : Heap} {t : Nat} (k : ∀ b o, s.heap.get? b = some o → h'.get? b = some o) : Inv X pins σ H { s with heap := h', toks := t } :=
  I.kept k
def rB (K : PySem.W.Frag) (f : List D → Option D) : List V → Hp → VK → Prop := fun vs H Q => ∃ ds z d, RepL K H ds 0 vs [] z ∧ f ds = some d ∧ PQ K H z d Q
theorem RepL.one {K : PySem.W.Frag} {H : Hp} {d : D} {vs : List V} {z : List Addr} (r : RepL K H [d] 0 vs [] z) : ∃ v, vs = [v] ∧ Rep K H d 0 v [] z := by
  simp only [RepL] at r
  obtain ⟨w, vs', g1, g2, y1, y2, e0, e1, e2, s1, rfl, rfl, rfl⟩ := r
  rw [List.append_nil] at e1 e2
  subst e1 e2
  exact ⟨w, e0, s1⟩
theorem RepL.two {K : PySem.W.Frag} {H : Hp} {d e : D} {vs : List V} {z : List Addr} (r : RepL K H [d, e] 0 vs [] z) : ∃ v w z1 z2, vs = [v, w] ∧ Rep K H d 0 v [] z1 ∧ Rep K H e 0 w [] z2 ∧ z = z1 ++ z2 := by
  simp only [RepL] at r
  obtain ⟨v, vs', g1, g2, y1, y2, e0, e1, e2, s1, w, vs2, f1, f2, x1, x2, q0, q1, q2, s2, h5, h6, h7⟩ := r
  have h1 := Rep.zero _ _ _ _ s1
  have h2 := Rep.zero _ _ _ _ s2
  subst h1 h2 h5 h6 h7 q0
  rw [List.append_nil] at q2
  subst q2
  exact ⟨v, w, y1, y2, e0, s1, s2, e2⟩
def rU1 (K : PySem.W.Frag) (f : D → Option D) : List V → Hp → VK → Prop := fun vs H Q => ∃ x d z d', vs = [x] ∧ Rep K H d 0 x [] z ∧ f d = some d' ∧ PQ K H z d' Q
theorem one_ok {g : Value} {f : D → Option D} (h : CallR X g (rU1 X.K f)) : CallR X g (rB X.K (one f)) := by
  intro pins s σ H xs us Q I r ⟨ds, z, d, rl, e, q⟩
  unfold one at e
  split at e
  · obtain ⟨v, e0, rv⟩ := rl.one
    exact h pins s σ H xs us Q I r ⟨v, _, z, d, e0, rv, e, q⟩
  · cases e
theorem repr_ok (hg : X.A.guards = some []) (hu : X.A.units + 100 < cLine) : CallR X (.builtin "repr") (rB X.K (one reprB)) := by
  refine one_ok ?_
  intro pins s σ H xs us Q I r ⟨x, d, z, d', e0, rv, e, q⟩
  subst e0
  simp only [reprB, Option.map_eq_some_iff] at e
  obtain ⟨t, e, rfl⟩ := e
  unfold reprD at e
  split at e
  · rename_i p hp
    split at e
    · rename_i hc
      cases e
      simp only [Bool.and_eq_true, decide_eq_true_eq, Bool.or_eq_true, Bool.not_eq_true'] at hc
      obtain ⟨⟨⟨hs, hd⟩, hl⟩, hn⟩ := hc
      obtain ⟨u, rfl, ru⟩ := vals1 r
      have fin : ∀ (h' : Heap) (tk : Nat) (w : Tok), (∀ b o, s.heap.get? b = some o → h'.get? b = some o) → EP X pins σ Q (.str p.shown w) { s with heap := h', toks := tk } :=
        fun h' tk w k => ⟨.str p.shown, H, inv_kept I k, ⟨w, rfl⟩, q.str⟩
      obtain ⟨as, rd, ns⟩ := Rep.reads I d x z p u rv hp ru
      cases rd with
      | none => exact PySem.P.repr_of_none (fin _ _ _ fun _ _ h => h)
      | bool b => exact PySem.P.repr_of_bool (by simpa [PyData.shown] using fin s.heap (s.toks + 1) s.toks fun _ _ h => h)
      | int i t => exact PySem.P.repr_of_int (by simpa [PyData.showable] using hs) (by simpa [PyData.shown] using fin s.heap (s.toks + 1) s.toks fun _ _ h => h)
      | str y t => exact PySem.P.repr_of_str (by simpa [PyData.shown] using fin s.heap (s.toks + 1) s.toks fun _ _ h => h) (by simpa [PyData.shown] using hl)
      | list a b c e =>
        exact repr_of_reads' (Reads.list a b c e) hs (fun h => (ns (hn.resolve_left (by rw [h]; simp))).mem) hg (by omega) (fun _ _ h => h) (fun h' u tk k => fin h' tk u k) hl
      | tuple a b c e =>
        exact repr_of_reads' (Reads.tuple a b c e) hs (fun h => (ns (hn.resolve_left (by rw [h]; simp))).mem) hg (by omega) (fun _ _ h => h) (fun h' u tk k => fin h' tk u k) hl
      | dict a b c e f =>
        exact repr_of_reads' (Reads.dict a b c e f) hs (fun h => (ns (hn.resolve_left (by rw [h]; simp))).mem) hg (by omega) (fun _ _ h => h) (fun h' u tk k => fin h' tk u k) hl
    · cases e
  · cases e
theorem PQ.num {K : PySem.W.Frag} {H : Hp} {z : List Addr} {i : Int} {Q : VK} (q : PQ K H z (.int i) Q) : Q (.int i) H := q.int
theorem isInts_rep {K : PySem.W.Frag} {H : Hp} : ∀ {l : List D} {ns : List Int} {vs : List V} {fp z : List Addr} {n : Nat}, RepL K H l n vs fp z → isInts l = some ns → vs = ns.map .int
  | [], ns, vs, fp, z, n, r, h => by simp only [RepL] at r; simp only [isInts, Option.some.injEq] at h; rw [r.1, ← h]; rfl
  | d :: l, ns, vs, fp, z, n, r, h => by
    simp only [RepL] at r
    obtain ⟨w, vs', g1, g2, y1, y2, e0, e1, e2, s1, s2⟩ := r
    cases d with
    | int i =>
      simp only [isInts, Option.map_eq_some_iff] at h
      obtain ⟨ns', h, rfl⟩ := h
      rw [e0, isInts_rep s2 h, s1.toInt]; rfl
    | _ => simp [isInts] at h
theorem isBls_rep {K : PySem.W.Frag} {H : Hp} : ∀ {l : List D} {ns : List Bool} {vs : List V} {fp z : List Addr} {n : Nat}, RepL K H l n vs fp z → isBls l = some ns → vs = ns.map .bl
  | [], ns, vs, fp, z, n, r, h => by simp only [RepL] at r; simp only [isBls, Option.some.injEq] at h; rw [r.1, ← h]; rfl
  | d :: l, ns, vs, fp, z, n, r, h => by
    simp only [RepL] at r
    obtain ⟨w, vs', g1, g2, y1, y2, e0, e1, e2, s1, s2⟩ := r
    cases d with
    | bl i =>
      simp only [isBls, Option.map_eq_some_iff] at h
      obtain ⟨ns', h, rfl⟩ := h
      rw [e0, isBls_rep s2 h, s1.toBl]; rfl
    | _ => simp [isBls] at h
theorem len_ok : CallR X (.builtin "len") (rB X.K (one lenB)) := by
  refine one_ok ?_
  intro pins s σ H xs us Q I r ⟨x, d, z, d', e0, rv, e, q⟩
  simp only [lenB, Option.map_eq_some_iff] at e
  obtain ⟨n, e, rfl⟩ := e
  cases d with
  | str y =>
    simp only [lenD] at e
    split at e
    · rename_i h
      cases e; cases rv.toStr
      exact call_len pins s σ H xs us Q I r ⟨_, _, e0, ⟨h, rfl⟩, q.int⟩
    · cases e
  | tup l =>
    simp only [lenD, Option.some.injEq] at e
    obtain ⟨a, vs, rfl, h, rl⟩ := rv.toTup
    refine call_len_seq pins s σ H xs us Q I r ⟨a, vs, e0, .inr (SqT.of h), ?_⟩
    rw [RepL.len rl, e]; exact q.int
  | ctup l =>
    simp only [lenD, Option.some.injEq] at e
    obtain ⟨a, vs, rfl, h, rl⟩ := rv.toCtup
    refine call_len_seq pins s σ H xs us Q I r ⟨a, vs, e0, .inr h, ?_⟩
    rw [RepL.len rl, e]; exact q.int
  | lst l =>
    simp only [lenD, Option.some.injEq] at e
    obtain ⟨a, vs, _, rfl, h, rl, rfl⟩ := rv.toLst
    refine call_len_seq pins s σ H xs us Q I r ⟨a, vs, e0, .inl (SqL.of h), ?_⟩
    rw [RepL.len rl, e]; exact q.int
  | dk l =>
    simp only [lenD, Option.some.injEq] at e
    obtain ⟨a, vs, _, rfl, h, rl, rfl⟩ := rv.toDk
    have hl : vs.length = l.length := RepK.len rl
    subst e0
    obtain ⟨u, rfl, ru⟩ := vals1 r
    obtain rfl : u = .ref a := ru
    exact d_len I h fun t s' I' => ⟨.int _, H, I', ⟨t, rfl⟩, by rw [hl, e]; exact q.int⟩
  | scr l =>
    simp only [lenD, Option.some.injEq] at e
    simp only [Rep] at rv
    obtain ⟨a, rfl, _, h⟩ := rv
    refine call_len_seq pins s σ H xs us Q I r ⟨a, _, e0, .inl (h.elim (fun h => .inl h.1) (fun h => .inr h.1)), ?_⟩
    rw [List.length_map, e]; exact q.int
  | _ => simp [lenD] at e
theorem int_ok : CallR X (.type "int") (rB X.K (one intB)) := by
  refine one_ok ?_
  intro pins s σ H xs us Q I r ⟨x, d, z, d', e0, rv, e, q⟩
  cases d with
  | int i => simp only [intB, Option.some.injEq] at e; subst e; cases rv.toInt; exact call_int1 pins s σ H xs us Q I r (.inl ⟨i, e0, q.int⟩)
  | bl b => simp only [intB, Option.some.injEq] at e; subst e; cases rv.toBl; exact call_int1 pins s σ H xs us Q I r (.inr ⟨b, e0, q.int⟩)
  | _ => simp [intB] at e
theorem bool_ok : CallR X (.type "bool") (rB X.K (one boolB)) := by
  refine one_ok ?_
  intro pins s σ H xs us Q I r ⟨x, d, z, d', e0, rv, e, q⟩
  cases d with
  | int i => simp only [boolB, Option.some.injEq] at e; subst e; cases rv.toInt; exact call_bool1 pins s σ H xs us Q I r (.inl ⟨i, e0, q.bl⟩)
  | bl b => simp only [boolB, Option.some.injEq] at e; subst e; cases rv.toBl; exact call_bool1 pins s σ H xs us Q I r (.inr ⟨b, e0, q.bl⟩)
  | _ => simp [boolB] at e
theorem abs_ok : CallR X (.builtin "abs") (rB X.K (one absB)) := by
  refine one_ok ?_
  intro pins s σ H xs us Q I r ⟨x, d, z, d', e0, rv, e, q⟩
  cases d with
  | int i => simp only [absB, Option.some.injEq] at e; subst e; cases rv.toInt; exact call_abs pins s σ H xs us Q I r ⟨i, e0, q.int⟩
  | _ => simp [absB] at e
theorem str_ok : CallR X (.type "str") (rB X.K (one strB)) := by
  refine one_ok ?_
  intro pins s σ H xs us Q I r ⟨x, d, z, d', e0, rv, e, q⟩
  cases d with
  | int i =>
    simp only [strB] at e
    split at e
    · rename_i h
      cases e; cases rv.toInt; exact call_str_int pins s σ H xs us Q I r ⟨i, e0, h, q.str⟩
    · cases e
  | _ => simp [strB] at e
theorem sum_ok (hc : X.calm = true) : CallR X (.builtin "sum") (rB X.K (one sumB)) := by
  refine one_ok ?_
  intro pins s σ H xs us Q I r ⟨x, d, z, d', e0, rv, e, q⟩
  cases d with
  | lst l =>
    simp only [sumB, Option.map_eq_some_iff] at e
    obtain ⟨ns, e, rfl⟩ := e
    obtain ⟨a, vs, _, rfl, h, rl, rfl⟩ := rv.toLst
    rw [isInts_rep rl e] at h
    exact cr_sum hc pins s σ H xs us Q I r ⟨a, ns, e0, SqL.of h, q.int⟩
  | _ => simp [sumB] at e
theorem insertI_perm (x : Int) : ∀ l : List Int, (insertI x l).Perm (x :: l)
  | [] => .refl _
  | y :: r => by
    simp only [insertI]
    split
    · exact .refl _
    · exact ((insertI_perm x r).cons y).trans (.swap x y r)
theorem sortI_perm : ∀ l : List Int, (sortI l).Perm l
  | [] => .refl _
  | x :: r => (insertI_perm x _).trans ((sortI_perm r).cons x)
theorem insertI_sorted (x : Int) : ∀ l : List Int, l.Pairwise (· ≤ ·) → (insertI x l).Pairwise (· ≤ ·)
  | [], _ => by simp [insertI]
  | y :: r, h => by
    simp only [insertI]
    have h' := List.pairwise_cons.mp h
    split
    · rename_i hx
      refine List.pairwise_cons.mpr ⟨fun z m => ?_, h⟩
      rcases List.mem_cons.mp m with rfl | m
      · exact hx
      · exact Int.le_trans hx (h'.1 z m)
    · rename_i hx
      refine List.pairwise_cons.mpr ⟨fun z m => ?_, insertI_sorted x r h'.2⟩
      rcases List.mem_cons.mp ((insertI_perm x r).mem_iff.mp m) with rfl | m
      · omega
      · exact h'.1 z m
theorem sortI_sorted : ∀ l : List Int, (sortI l).Pairwise (· ≤ ·)
  | [] => List.Pairwise.nil
  | x :: r => insertI_sorted x _ (sortI_sorted r)
theorem sortI_eq {a l : List Int} (p : a.Perm l) (s : a.Pairwise (· ≤ ·)) : a = sortI l :=
  (p.trans (sortI_perm l).symm).eq_of_pairwise (fun _ _ _ _ h1 h2 => Int.le_antisymm h1 h2) s (sortI_sorted l)
theorem isTI_rep {K : PySem.W.Frag} {H : Hp} : ∀ {l : List D} {ts : List (List Int)} {vs : List V} {z : List Addr}, RepL K H l 0 vs [] z → isTI l = some ts →
    ∃ k : V → List Int, (∀ x ∈ vs, ∃ t, x = .ref t ∧ H t = some (.tup ((k x).map V.int)) ∧ k x ≠ []) ∧ vs.map k = ts := by
  have key : ∀ {l : List D} {ts : List (List Int)} {vs : List V} {z : List Addr}, RepL K H l 0 vs [] z → isTI l = some ts → ∃ as : List (Addr × List Int), vs = as.map (fun p => V.ref p.1) ∧ ts = as.map (·.2) ∧ ∀ p ∈ as, H p.1 = some (.tup (p.2.map V.int)) ∧ p.2 ≠ [] := by
    intro l
    induction l with
    | nil =>
      intro ts vs z r h
      simp only [RepL] at r
      cases h
      exact ⟨[], r.1, rfl, fun p m => absurd m List.not_mem_nil⟩
    | cons d l ih =>
      intro ts vs z r h
      simp only [RepL] at r
      obtain ⟨v, vs', f1, f2, z1, z2, rfl, hf, _, r1, r2⟩ := r
      have h1 : f1 = [] := (List.append_eq_nil_iff.mp hf.symm).1
      have h2 : f2 = [] := (List.append_eq_nil_iff.mp hf.symm).2
      subst h1 h2
      cases d <;> simp only [isTI, reduceCtorEq] at h
      rename_i ds
      split at h
      · rename_i x xs ts' e1 e2
        cases h
        obtain ⟨as, rfl, rfl, h3⟩ := ih r2 e2
        obtain ⟨a, us, rfl, hh, rl⟩ := r1.toTup
        have := isInts_rep rl e1
        subst this
        refine ⟨(a, x :: xs) :: as, rfl, rfl, fun p m => ?_⟩
        rcases List.mem_cons.mp m with rfl | m
        · exact ⟨hh, by simp⟩
        · exact h3 p m
      · cases h
  intro l ts vs z r h
  obtain ⟨as, rfl, rfl, h3⟩ := key r h
  -- an address has one list
  let k : V → List Int := fun v => match v with
    | .ref a => ((as.find? fun p => p.1 == a).map (·.2)).getD []
    | _ => []
  have hk : ∀ p ∈ as, k (.ref p.1) = p.2 := by
    intro p hp
    show ((as.find? fun q => q.1 == p.1).map (·.2)).getD [] = p.2
    cases hf : as.find? fun q => q.1 == p.1 with
    | none =>
      have := List.find?_eq_none.mp hf p hp
      simp at this
    | some q =>
      have hq := List.find?_some hf
      have hq1 : q.1 = p.1 := by simpa using hq
      have hqm := List.mem_of_find?_eq_some hf
      have a1 := (h3 q hqm).1
      have a2 := (h3 p hp).1
      rw [hq1, a2] at a1
      injection a1 with a1
      injection a1 with a1
      have : p.2 = q.2 := by
        have := congrArg (List.map fun v => match v with | V.int i => i | _ => 0) a1
        simpa [List.map_map, Function.comp_def] using this
      rw [this]; rfl
  refine ⟨k, fun x hx => ?_, ?_⟩
  · obtain ⟨p, hp, rfl⟩ := List.mem_map.mp hx
    refine ⟨p.1, rfl, ?_, ?_⟩
    · rw [hk p hp]; exact (h3 p hp).1
    · rw [hk p hp]; exact (h3 p hp).2
  · rw [List.map_map]
    exact List.map_congr_left fun p hp => hk p hp
theorem repL_tups {K : PySem.W.Frag} {H : Hp} {k : V → List Int} : ∀ (vs : List V), (∀ x ∈ vs, ∃ t, x = .ref t ∧ H t = some (.tup ((k x).map V.int)) ∧ k x ≠ []) → RepL K H ((vs.map k).map tupI) 0 vs [] []
  | [], _ => ⟨rfl, rfl, rfl⟩
  | v :: vs, h => by
    obtain ⟨t, rfl, ht, _⟩ := h v (List.mem_cons_self ..)
    exact ⟨.ref t, vs, [], [], [], [], rfl, rfl, rfl, by simp only [tupI, Rep]; exact ⟨t, _, rfl, ht, RepL.ints _⟩, repL_tups vs fun x m => h x (List.mem_cons_of_mem _ m)⟩
theorem sorted_ok : CallR X (.builtin "sorted") (rB X.K (one sortedB)) := by
  refine one_ok ?_
  intro pins s σ H xs us Q I r ⟨x, d, z, d', e0, rv, e, q⟩
  cases d with
  | lst l =>
    simp only [sortedB] at e
    split at e
    · rename_i ns e1
      cases e
      obtain ⟨a, vs, _, rfl, h, rl, rfl⟩ := rv.toLst
      rw [isInts_rep rl e1] at h
      refine cr_sortedI pins s σ H xs us Q I r ⟨a, ns, e0, SqL.of h, fun ns' p hp hs hn => ?_⟩
      rw [sortI_eq hp hs]
      exact q.lst (RepL.ints _) (by simp) p hn
    · simp only [Option.map_eq_some_iff] at e
      obtain ⟨ts, e, rfl⟩ := e
      obtain ⟨a, vs, _, rfl, h, rl, rfl⟩ := rv.toLst
      obtain ⟨k, hk, rfl⟩ := isTI_rep rl e
      refine cr_sortedT pins s σ H xs us Q I r ⟨a, vs, k, e0, SqL.of h, hk, fun p out hs hp hn => ?_⟩
      have e2 : out.map k = sortT (vs.map k) := sortT_eq (hp.map k) (List.pairwise_map.mpr hs)
      rw [← e2] at q
      exact q.lst (repL_tups out fun x m => hk x (hp.mem_iff.mp m)) (by simp) p hn
  | _ => simp [sortedB] at e
theorem tuple_ok : CallR X (.type "tuple") (rB X.K (one tupleB)) := by
  refine one_ok ?_
  intro pins s σ H xs us Q I r ⟨x, d, z, d', e0, rv, e, q⟩
  cases d with
  | lst l =>
    simp only [tupleB, Option.some.injEq] at e
    subst e
    obtain ⟨a, vs, z', rfl, h, rl, rfl⟩ := rv.toLst
    exact call_tuple_of pins s σ H xs us Q I r ⟨a, vs, e0, .inl ⟨SqL.of h, fun p hp => q.tup rl (fun a m => List.mem_cons_of_mem _ m) p hp⟩⟩
  | tup l =>
    simp only [tupleB, Option.some.injEq] at e
    subst e
    have rv' := rv
    obtain ⟨a, vs, rfl, h, rl⟩ := rv.toTup
    exact call_tuple_of pins s σ H xs us Q I r ⟨a, vs, e0, .inr ⟨SqT.of h, q.same rfl rv' (fun a m => m)⟩⟩
  | ctup l =>
    simp only [tupleB, Option.some.injEq] at e
    subst e
    have rv' := rv
    obtain ⟨a, vs, rfl, h, rl⟩ := rv.toCtup
    exact call_tuple_of pins s σ H xs us Q I r ⟨a, vs, e0, .inr ⟨h, q.same rfl rv' (fun a m => m)⟩⟩
  | _ => simp [tupleB] at e
theorem list_ok : CallR X (.type "list") (rB X.K (one listB)) := by
  refine one_ok ?_
  intro pins s σ H xs us Q I r ⟨x, d, z, d', e0, rv, e, q⟩
  cases d with
  | lst l =>
    simp only [listB, Option.some.injEq] at e
    subst e
    obtain ⟨a, vs, z', rfl, h, rl, rfl⟩ := rv.toLst
    exact call_list_of pins s σ H xs us Q I r ⟨a, vs, e0, .inl (SqL.of h), fun p hp => q.lst rl (fun a m => List.mem_cons_of_mem _ m) p hp⟩
  | tup l =>
    simp only [listB, Option.some.injEq] at e
    subst e
    obtain ⟨a, vs, rfl, h, rl⟩ := rv.toTup
    exact call_list_of pins s σ H xs us Q I r ⟨a, vs, e0, .inr (SqT.of h), fun p hp => q.lst rl (fun a m => m) p hp⟩
  | ctup l =>
    simp only [listB, Option.some.injEq] at e
    subst e
    obtain ⟨a, vs, rfl, h, rl⟩ := rv.toCtup
    exact call_list_of pins s σ H xs us Q I r ⟨a, vs, e0, .inr h, fun p hp => q.lst rl (fun a m => m) p hp⟩
  | scr l =>
    simp only [listB, Option.some.injEq] at e
    subst e
    simp only [Rep] at rv
    obtain ⟨a, rfl, _, h⟩ := rv
    refine call_list_of pins s σ H xs us Q I r ⟨a, _, e0, .inl (h.elim (fun h => .inl h.1) (fun h => .inr h.1)), fun p hp => ?_⟩
    exact q.lst (vs := l.map .int) (RepL.ints l) (by simp) p hp
  | _ => simp [listB] at e
theorem all_ok (hc : X.calm = true) : CallR X (.builtin "all") (rB X.K (one allB)) := by
  refine one_ok ?_
  intro pins s σ H xs us Q I r ⟨x, d, z, d', e0, rv, e, q⟩
  cases d with
  | lst l =>
    simp only [allB, Option.map_eq_some_iff] at e
    obtain ⟨ns, e, rfl⟩ := e
    obtain ⟨a, vs, _, rfl, h, rl, rfl⟩ := rv.toLst
    rw [isBls_rep rl e] at h
    exact cr_all hc pins s σ H xs us Q I r ⟨a, ns, e0, SqL.of h, q.bl⟩
  | _ => simp [allB] at e
theorem any_ok (hc : X.calm = true) : CallR X (.builtin "any") (rB X.K (one anyB)) := by
  refine one_ok ?_
  intro pins s σ H xs us Q I r ⟨x, d, z, d', e0, rv, e, q⟩
  cases d with
  | lst l =>
    simp only [anyB, Option.map_eq_some_iff] at e
    obtain ⟨ns, e, rfl⟩ := e
    obtain ⟨a, vs, _, rfl, h, rl, rfl⟩ := rv.toLst
    rw [isBls_rep rl e] at h
    exact cr_any hc pins s σ H xs us Q I r ⟨a, ns, e0, SqL.of h, q.bl⟩
  | _ => simp [anyB] at e
theorem maxI_spec : ∀ (r : List Int) (x : Int), maxI x r ∈ x :: r ∧ ∀ y ∈ x :: r, y ≤ maxI x r
  | [], x => by simp [maxI]
  | y :: r, x => by
    simp only [maxI]
    obtain ⟨h1, h2⟩ := maxI_spec r (if x < y then y else x)
    refine ⟨?_, fun z m => ?_⟩
    · rcases List.mem_cons.mp h1 with h | h
      · rw [h]; split <;> simp
      · simp [h]
    · have h3 := h2 _ List.mem_cons_self
      have h4 : x ≤ (if x < y then y else x) ∧ y ≤ (if x < y then y else x) := by split <;> omega
      rcases List.mem_cons.mp m with rfl | m
      · exact Int.le_trans h4.1 h3
      · rcases List.mem_cons.mp m with rfl | m
        · exact Int.le_trans h4.2 h3
        · exact h2 z (List.mem_cons_of_mem _ m)
theorem minI_spec : ∀ (r : List Int) (x : Int), minI x r ∈ x :: r ∧ ∀ y ∈ x :: r, minI x r ≤ y
  | [], x => by simp [minI]
  | y :: r, x => by
    simp only [minI]
    obtain ⟨h1, h2⟩ := minI_spec r (if y < x then y else x)
    refine ⟨?_, fun z m => ?_⟩
    · rcases List.mem_cons.mp h1 with h | h
      · rw [h]; split <;> simp
      · simp [h]
    · have h3 := h2 _ List.mem_cons_self
      have h4 : (if y < x then y else x) ≤ x ∧ (if y < x then y else x) ≤ y := by split <;> omega
      rcases List.mem_cons.mp m with rfl | m
      · exact Int.le_trans h3 h4.1
      · rcases List.mem_cons.mp m with rfl | m
        · exact Int.le_trans h3 h4.2
        · exact h2 z (List.mem_cons_of_mem _ m)
theorem max_ok (hc : X.calm = true) : CallR X (.builtin "max") (rB X.K maxB) := by
  intro pins s σ H xs us Q I r ⟨ds, z, d, rl, e, q⟩
  unfold maxB at e
  split at e
  · obtain ⟨v, w, z1, z2, e0, r1, r2, rfl⟩ := rl.two
    cases e; cases r1.toInt; cases r2.toInt
    exact call_max2 hc pins s σ H xs us Q I r ⟨_, _, e0, q.int⟩
  · obtain ⟨v, e0, rv⟩ := rl.one
    split at e
    · rename_i x r' h
      cases e
      obtain ⟨a, vs, _, rfl, hl, rl', rfl⟩ := rv.toLst
      rw [isInts_rep rl' h] at hl
      refine cr_max hc pins s σ H xs us Q I r ⟨a, _, e0, SqL.of hl, by simp, fun m hm hy => ?_⟩
      obtain ⟨h1, h2⟩ := maxI_spec r' x
      have : m = maxI x r' := Int.le_antisymm (h2 m hm) (hy _ h1)
      rw [this]; exact q.int
    · cases e
  · cases e
theorem min_ok (hc : X.calm = true) : CallR X (.builtin "min") (rB X.K minB) := by
  intro pins s σ H xs us Q I r ⟨ds, z, d, rl, e, q⟩
  unfold minB at e
  split at e
  · obtain ⟨v, w, z1, z2, e0, r1, r2, rfl⟩ := rl.two
    cases e; cases r1.toInt; cases r2.toInt
    exact call_min2 hc pins s σ H xs us Q I r ⟨_, _, e0, q.int⟩
  · obtain ⟨v, e0, rv⟩ := rl.one
    split at e
    · rename_i x r' h
      cases e
      obtain ⟨a, vs, _, rfl, hl, rl', rfl⟩ := rv.toLst
      rw [isInts_rep rl' h] at hl
      refine cr_min hc pins s σ H xs us Q I r ⟨a, _, e0, SqL.of hl, by simp, fun m hm hy => ?_⟩
      obtain ⟨h1, h2⟩ := minI_spec r' x
      have : m = minI x r' := Int.le_antisymm (hy _ h1) (h2 m hm)
      rw [this]; exact q.int
    · cases e
  · cases e
/-- what a built-in's name means -/
def bnVal : Bn → Value
  | .int => .type "int" | .tuple => .type "tuple" | .list => .type "list" | .str => .type "str" | .bool => .type "bool"
  | .len => .builtin "len" | .abs => .builtin "abs" | .max => .builtin "max" | .min => .builtin "min" | .sum => .builtin "sum"
  | .sorted => .builtin "sorted" | .repr => .builtin "repr" | .all => .builtin "all" | .any => .builtin "any"
theorem blt_ok (hc : X.calm = true) (hg : X.A.guards = some []) (hu : X.A.units + 100 < cLine) (f : Bn) : CallR X (bnVal f) (rB X.K (bltD f)) := by
  cases f
  · exact len_ok
  · exact int_ok
  · exact abs_ok
  · exact max_ok hc
  · exact min_ok hc
  · exact sum_ok hc
  · exact sorted_ok
  · exact tuple_ok
  · exact list_ok
  · exact repr_ok hg hu
  · exact str_ok
  · exact all_ok hc
  · exact any_ok hc
  · exact bool_ok
end
end Pi
/-! Pi6: what an expression's run leaves; the checker. -/
namespace Pi
open PySem L2

/-- what may be written: nothing (b), or what the slots own -/
abbrev wset (b : Bool) (fp : List Addr) : List Addr := if b then [] else fp
theorem wset_sub {b : Bool} {fp : List Addr} : ∀ a ∈ wset b fp, a ∈ fp := fun a m => by cases b <;> simp_all [wset]
/-- from the slots' addresses fp, fz in H to fp', fz' in H' -/
structure Ext (b : Bool) (H : Hp) (fp fz : List Addr) (H' : Hp) (fp' fz' : List Addr) : Prop where
  stay : Stay (wset b fp) H H'
  fpx : ∀ a ∈ fp', a ∈ fp ∨ H a = none
  fzx : ∀ a ∈ fz', a ∈ fp ∨ a ∈ fz ∨ H a = none
def Trk (H : Hp) (l : List Addr) : Prop := ∀ a ∈ l, H a ≠ none
theorem Trk.nil (H : Hp) : Trk H [] := fun _ m => absurd m List.not_mem_nil
def New (H : Hp) (l : List Addr) : Prop := ∀ a ∈ l, H a = none
section
variable {b : Bool} {H H1 H2 H' : Hp} {fp fz f1 z1 f2 z2 f z : List Addr}
theorem Ext.refl (b : Bool) (H : Hp) (fp fz : List Addr) : Ext b H fp fz H fp fz := ⟨.refl _ _, fun _ m => .inl m, fun _ m => .inr (.inl m)⟩
theorem Ext.weak {b' : Bool} (e : Ext b H fp fz H1 f z) (h : b' = true → b = true) : Ext b' H fp fz H1 f z :=
  ⟨e.stay.mono fun a m => by cases b' <;> cases b <;> simp_all [wset], e.fpx, e.fzx⟩
theorem Ext.to (e : Ext b H fp fz H1 f1 z1) (h1 : ∀ a ∈ f, a ∈ f1) (h2 : ∀ a ∈ z, a ∈ f1 ∨ a ∈ z1) : Ext b H fp fz H1 f z :=
  ⟨e.stay, fun a m => e.fpx a (h1 a m), fun a m => (h2 a m).elim (fun m => (e.fpx a m).elim .inl fun h => .inr (.inr h)) (e.fzx a)⟩
theorem Ext.less (e : Ext b H fp fz H1 f1 z1) (l : Less f1 z1 f z) : Ext b H fp fz H1 f z := e.to l.fp fun a m => (l.fz a m).symm
theorem Ext.perm (e : Ext b H fp fz H1 f1 z1) (p : f1.Perm f) (q : z1.Perm z) : Ext b H fp fz H1 f z := e.to (fun a m => p.mem_iff.mpr m) fun a m => .inr (q.mem_iff.mpr m)
theorem Ext.some (e : Ext b H fp fz H1 f z) {a : Addr} (h : H1 a = none) : H a = none ∨ a ∈ fp := (e.stay.some h).imp id (wset_sub a)
theorem Ext.none (e : Ext true H fp fz H1 f z) {a : Addr} (h : H1 a = none) : H a = none := (e.stay.some h).elim id fun m => absurd m List.not_mem_nil
/-- a temporary (f1, z1) beside the slots (f2, z2), which run on -/
theorem Ext.trans (e : Ext b H fp fz H1 (f1 ++ f2) (z1 ++ z2)) (e2 : Ext b H1 f2 z2 H2 f z) : Ext b H fp fz H2 (f1 ++ f) (z1 ++ z) where
  stay := fun a o h n => e2.stay a o (e.stay a o h n) fun m => by
    cases b with
    | true => exact absurd m List.not_mem_nil
    | false =>
      rcases e.fpx a (List.mem_append_right _ m) with q | q
      · exact n q
      · rw [h] at q; cases q
  fpx := fun a m => by
    rcases List.mem_append.mp m with m | m
    · exact e.fpx a (List.mem_append_left _ m)
    · rcases e2.fpx a m with q | q
      · exact e.fpx a (List.mem_append_right _ q)
      · exact (e.some q).symm
  fzx := fun a m => by
    rcases List.mem_append.mp m with m | m
    · exact e.fzx a (List.mem_append_left _ m)
    · rcases e2.fzx a m with q | q | q
      · exact (e.fpx a (List.mem_append_right _ q)).imp id .inr
      · exact e.fzx a (List.mem_append_right _ q)
      · exact (e.some q).elim (fun h => .inr (.inr h)) .inl
theorem Ext.trans0 (e : Ext b H fp fz H1 f2 z2) (e2 : Ext b H1 f2 z2 H2 f z) : Ext b H fp fz H2 f z :=
  Ext.trans (f1 := []) (z1 := []) e e2
/-- the temporary is apart from what the slots come to -/
theorem Ext.disj (d : Disj (f1 ++ f2) (z1 ++ z2)) (t : Trk H1 f1) (t' : Trk H1 z1) (e2 : Ext b H1 f2 z2 H2 f z) (d2 : Disj f z) : Disj (f1 ++ f) (z1 ++ z) := by
  have n := List.nodup_append.mp d.1
  refine ⟨List.nodup_append.mpr ⟨n.1, d2.1, fun a m b m' => ?_⟩, fun a m m' => ?_⟩
  · rintro rfl
    rcases e2.fpx a m' with q | q
    · exact n.2.2 a m a q rfl
    · exact t a m q
  · rcases List.mem_append.mp m with m | m
    · rcases List.mem_append.mp m' with m' | m'
      · exact d.2 a (List.mem_append_left _ m) (List.mem_append_left _ m')
      · rcases e2.fzx a m' with q | q | q
        · exact n.2.2 a m a q rfl
        · exact d.2 a (List.mem_append_left _ m) (List.mem_append_right _ q)
        · exact t a m q
    · rcases List.mem_append.mp m' with m' | m'
      · rcases e2.fpx a m with q | q
        · exact d.2 a (List.mem_append_right _ q) (List.mem_append_left _ m')
        · exact t' a m' q
      · exact d2.2 a m m'
/-- the temporary is not touched -/
theorem Disj.off1 (d : Disj (f1 ++ f2) (z1 ++ z2)) : ∀ a ∈ f1, a ∉ wset b f2 := fun a m m' => (List.nodup_append.mp d.1).2.2 a m a (wset_sub a m') rfl
theorem Disj.off2 (d : Disj (f1 ++ f2) (z1 ++ z2)) : ∀ a ∈ z1, a ∉ wset b f2 := fun a m m' => d.2 a (List.mem_append_right _ (wset_sub a m')) (List.mem_append_left _ m)
theorem Disj.right (d : Disj (f1 ++ f2) (z1 ++ z2)) : Disj f2 z2 := ⟨(List.nodup_append.mp d.1).2.1, fun a m m' => d.2 a (List.mem_append_right _ m) (List.mem_append_right _ m')⟩
theorem Disj.left (d : Disj (f1 ++ f2) (z1 ++ z2)) : Disj f1 z1 := ⟨(List.nodup_append.mp d.1).1, fun a m m' => d.2 a (List.mem_append_left _ m) (List.mem_append_left _ m')⟩
end
/-- nothing of a slot is written, lent or moved -/
def quiet : Ex → Bool
  | .mv _ | .lend _ | .mutv _ _ _ | .mutk _ _ _ _ => false
  | .q e => quiet e
  | .op2 _ a b => quiet a && quiet b
  | .neg a => quiet a
  | .not a => quiet a
  | .cmp _ a b => quiet a && quiet b
  | .chain _ _ a b c => quiet a && quiet b && quiet c
  | .and a b => quiet a && quiet b
  | .or a b => quiet a && quiet b
  | .ite c a b => quiet c && quiet a && quiet b
  | .cons a b => quiet a && quiet b
  | .tup _ a => quiet a
  | .lst _ a => quiet a
  | .dict _ a => quiet a
  | .ix a b => quiet a && quiet b
  | .sl a b c => quiet a && quiet b && quiet c
  | .rev a => quiet a
  | .fld a _ => quiet a
  | .call _ a _ bs => quiet a && bs.isEmpty
  | .blt _ a => quiet a
  | .mth _ a b => quiet a && quiet b
  | .lc _ _ a _ b c => quiet a && quiet b && quiet c
  | .isin a _ => quiet a
  | .tnot a => quiet a
  | .tand a b => quiet a && quiet b
  | .tor a b => quiet a && quiet b
  | .tval a => quiet a
  | .tcmp _ a b => quiet a && quiet b
  | .tchain _ _ a b c => quiet a && quiet b && quiet c
  | .tq a => quiet a
  | .ival a => quiet a
  | .irng1 a => quiet a
  | .irng2 a b => quiet a && quiet b
  | .irng3 a b c => quiet a && quiet b && quiet c
  | .ienum a => quiet a
  | .izip a b => quiet a && quiet b
  | .lrng1 a => quiet a
  | .lrng2 a b => quiet a && quiet b
  | .chain3 _ _ _ a b c d => quiet a && quiet b && quiet c && quiet d
  | .tchain3 _ _ _ a b c d => quiet a && quiet b && quiet c && quiet d
  | .mcall _ a b => quiet a && quiet b
  | .neq _ a b => quiet a && quiet b
  | .tneq _ a b => quiet a && quiet b
  | .isc _ a => quiet a
  | _ => true
section
variable {K : PySem.W.Frag} {H : Hp}
theorem Rep.trk {d : D} {n : Nat} {v : V} {f z : List Addr} (r : Rep K H d n v f z) : Trk H f ∧ Trk H z := by
  obtain ⟨h1, h2⟩ := Rep.own d n v f z r
  refine ⟨fun a m q => ?_, fun a m q => ?_⟩
  · obtain ⟨o, e, _⟩ := h1 a m
    rw [q] at e; cases e
  · obtain ⟨o, e⟩ := h2 a m
    rw [q] at e; cases e
theorem SL.trk {σ : St} {ρ : Env} {f z : List Addr} (r : SL K H σ ρ f z) : Trk H f ∧ Trk H z := by
  obtain ⟨h1, h2⟩ := SL.own r
  refine ⟨fun a m q => ?_, fun a m q => ?_⟩
  · obtain ⟨o, e, _⟩ := h1 a m
    rw [q] at e; cases e
  · obtain ⟨o, e⟩ := h2 a m
    rw [q] at e; cases e
end

/-! ### the readings -/
def PostE (b : Bool) (K : PySem.W.Frag) (σ : St) (H : Hp) (fp fz : List Addr) (d : Sl) (ρ' : Env) (Q : VK) : Prop :=
  ∀ v H' f1 z1 f2 z2, Rep K H' d.1 d.2 v f1 z1 → SL K H' σ ρ' f2 z2 → Disj (f1 ++ f2) (z1 ++ z2) → Ext b H fp fz H' (f1 ++ f2) (z1 ++ z2) → (b = true → New H f1) → Q v H'
def tI (K : PySem.W.Frag) (cf : Cf) (e : Ex) : TE := fun σ H Q => ∃ ρ fp fz d ρ', SL K H σ ρ fp fz ∧ Disj fp fz ∧ ev cf e ρ = .ok d ρ' ∧ PostE (quiet e) K σ H fp fz d ρ' Q
/-- slots alone -/
def PostS (b : Bool) (K : PySem.W.Frag) (σ : St) (H : Hp) (fp fz : List Addr) (ρ' : Env) (Q : Hp → Prop) : Prop :=
  ∀ H' f2 z2, SL K H' σ ρ' f2 z2 → Disj f2 z2 → Ext b H fp fz H' f2 z2 → Q H'
def tIT (K : PySem.W.Frag) (cf : Cf) (e : Ex) : TT := fun σ H Q => ∃ ρ fp fz b ρ', SL K H σ ρ fp fz ∧ Disj fp fz ∧ evT cf e ρ = .ok b ρ' ∧ PostS (quiet e) K σ H fp fz ρ' (Q b)
/-- arguments -/
def AL (K : PySem.W.Frag) (H : Hp) (σ : St) : List Ar → List V → List Addr → List Addr → Prop
  | [], vs, fp, fz => vs = [] ∧ fp = [] ∧ fz = []
  | .val s :: as, vs, fp, fz => ∃ v vs' f1 f2 z1 z2, vs = v :: vs' ∧ fp = f1 ++ f2 ∧ fz = z1 ++ z2 ∧ Rep K H s.1 s.2 v f1 z1 ∧ AL K H σ as vs' f2 z2
  | .ln i :: as, vs, fp, fz => ∃ v vs', vs = v :: vs' ∧ σ[i]? = some (some v) ∧ AL K H σ as vs' fp fz
theorem AL.stay {K : PySem.W.Frag} {H H' : Hp} {W : List Addr} (s : Stay W H H') {σ : St} : ∀ {as : List Ar} {vs : List V} {fp fz : List Addr}, AL K H σ as vs fp fz → (∀ a ∈ fp, a ∉ W) → (∀ a ∈ fz, a ∉ W) → AL K H' σ as vs fp fz
  | [], _, _, _, r, _, _ => r
  | .val d :: as, vs, fp, fz, r, h1, h2 => by
    obtain ⟨v, vs', f1, f2, z1, z2, e, e1, e2, r1, r2⟩ := r
    subst e1 e2
    exact ⟨v, vs', f1, f2, z1, z2, e, rfl, rfl, Rep.stay s _ _ _ _ _ r1 (fun a m => h1 a (List.mem_append_left _ m)) (fun a m => h2 a (List.mem_append_left _ m)),
      AL.stay s r2 (fun a m => h1 a (List.mem_append_right _ m)) (fun a m => h2 a (List.mem_append_right _ m))⟩
  | .ln i :: as, vs, fp, fz, r, h1, h2 => by
    obtain ⟨v, vs', e, g, r⟩ := r
    exact ⟨v, vs', e, g, AL.stay s r h1 h2⟩
theorem AL.trk {K : PySem.W.Frag} {H : Hp} {σ : St} : ∀ {as : List Ar} {vs : List V} {fp fz : List Addr}, AL K H σ as vs fp fz → Trk H fp ∧ Trk H fz
  | [], _, _, _, r => by obtain ⟨rfl, rfl, rfl⟩ := r; exact ⟨fun _ m => absurd m List.not_mem_nil, fun _ m => absurd m List.not_mem_nil⟩
  | .val d :: as, vs, fp, fz, r => by
    obtain ⟨v, vs', f1, f2, z1, z2, e, e1, e2, r1, r2⟩ := r
    subst e1 e2
    have h1 := r1.trk
    have h2 := AL.trk r2
    exact ⟨fun a m => (List.mem_append.mp m).elim (h1.1 a) (h2.1 a), fun a m => (List.mem_append.mp m).elim (h1.2 a) (h2.2 a)⟩
  | .ln i :: as, vs, fp, fz, r => by
    obtain ⟨v, vs', e, g, r⟩ := r
    exact AL.trk r
def PostA (b : Bool) (K : PySem.W.Frag) (σ : St) (H : Hp) (fp fz : List Addr) (as : List Ar) (ρ' : Env) (Q : List V → Hp → Prop) : Prop :=
  ∀ vs H' f1 z1 f2 z2, AL K H' σ as vs f1 z1 → SL K H' σ ρ' f2 z2 → Disj (f1 ++ f2) (z1 ++ z2) → Ext b H fp fz H' (f1 ++ f2) (z1 ++ z2) → (b = true → New H f1) → Q vs H'
def tIA (K : PySem.W.Frag) (cf : Cf) (e : Ex) : TA := fun σ H Q => ∃ ρ fp fz as ρ', SL K H σ ρ fp fz ∧ Disj fp fz ∧ evA cf e ρ = .ok as ρ' ∧ PostA (quiet e) K σ H fp fz as ρ' Q
def tIO (K : PySem.W.Frag) (cf : Cf) (e : Ex) : TO := fun σ H Q => ∃ ρ fp fz b ρ', SL K H σ ρ fp fz ∧ Disj fp fz ∧ evO cf e ρ = .ok b ρ' ∧ PostS (quiet e) K σ H fp fz ρ' (Q b)
/-- what is walked -/
structure ItOk (K : PySem.W.Frag) (J : It) (items : List D) (hold : Hp → Prop) (zI : List Addr) : Prop where
  keep : ∀ (W : List Addr) (H H' : Hp), Stay W H H' → (∀ a ∈ zI, a ∉ W) → hold H → hold H'
  trk : ∀ H, hold H → Trk H zI
  go : ∀ (i : Nat) (H : Hp) (d : D), hold H → items[i]? = some d → J.go i H ∧ ∀ x H', J.yld i H x H' → Stay [] H H' ∧ ∃ z, Rep K H' d 0 x [] z ∧ ∀ a ∈ z, a ∈ zI ∨ H a = none
  stop : ∀ (i : Nat) (H : Hp), hold H → items.length ≤ i → J.stop i H
def tII (K : PySem.W.Frag) (cf : Cf) (e : Ex) : TI := fun σ H R => ∃ ρ fp fz items ρ', SL K H σ ρ fp fz ∧ Disj fp fz ∧ evI cf e ρ = .ok items ρ' ∧
  ∀ J H' hold zI f2 z2, ItOk K J items hold zI → hold H' → SL K H' σ ρ' f2 z2 → Disj f2 (zI ++ z2) → Ext (quiet e) H fp fz H' f2 (zI ++ z2) → R J H'

/-! ### the results of bind -/
theorem bind_inv {α β : Type} {r : Rs α} {f : α → Env → Rs β} {b : β} {ρ : Env} (h : r.bind f = .ok b ρ) : ∃ a ρ1, r = .ok a ρ1 ∧ f a ρ1 = .ok b ρ := by
  cases r with
  | stk => cases h
  | ok a ρ1 => exact ⟨a, ρ1, rfl, h⟩
  | ex e ρ1 => cases h
theorem of_inv {α : Type} {o : Option α} {ρ ρ' : Env} {a : α} (h : Rs.of o ρ = .ok a ρ') : o = some a ∧ ρ' = ρ := by
  cases o with
  | none => cases h
  | some b => cases h; exact ⟨rfl, rfl⟩

/-! ### weakening -/
section
variable {X : Cx} {e : Expr}
theorem pe_imp {t t' : TE} (h : PE X e t) (i : ∀ σ H Q, t' σ H Q → t σ H Q) : PE X e t' := ⟨fun pins s σ H Q I q => h.run pins s σ H Q I (i σ H Q q)⟩
theorem pt_imp {t t' : TT} (h : PT X e t) (i : ∀ σ H Q, t' σ H Q → t σ H Q) : PT X e t' := ⟨fun pins s σ H Q I q => h.run pins s σ H Q I (i σ H Q q)⟩
theorem pw_imp {t t' : TT} (h : PW X e t) (i : ∀ σ H Q, t' σ H Q → t σ H Q) : PW X e t' := ⟨fun w pins s σ H Q I q => h.run w pins s σ H Q I (i σ H Q q)⟩
theorem pa_imp {es : List Expr} {t t' : TA} (h : PA X es t) (i : ∀ σ H Q, t' σ H Q → t σ H Q) : PA X es t' := ⟨fun pos pins s σ H Q I q => h.run pos pins s σ H Q I (i σ H Q q)⟩
end

/-! ### steps -/
section
variable {K : PySem.W.Frag} {cf : Cf} {σ : St} {H : Hp} {ρ ρ1 : Env} {fp fz : List Addr} {q : Bool}
/-- one expression, frozen -/
theorem step1 {a : Ex} {x : Sl} {R : V → Hp → Prop} (s : SL K H σ ρ fp fz) (d : Disj fp fz) (e : ev cf a ρ = .ok x ρ1) (hq : q = true → quiet a = true)
    (k : ∀ v H1 z1 f2 z2, Rep K H1 x.1 0 v [] z1 → SL K H1 σ ρ1 f2 z2 → Disj f2 (z1 ++ z2) → Ext q H fp fz H1 f2 (z1 ++ z2) → R v H1) : tI K cf a σ H R := by
  refine ⟨ρ, fp, fz, x, ρ1, s, d, e, fun v H' f1 z1 f2 z2 r s' d' e' _ => ?_⟩
  obtain ⟨z1', r', l⟩ := r.frz
  have l2 := l.app (Less.refl f2 z2)
  exact k v H' z1' f2 z2 r' s' (l2.disj d') ((e'.weak hq).less l2)
/-- two expressions, both frozen -/
theorem step2 {a b : Ex} {x y : Sl} {ρ2 : Env} {R : V → V → Hp → Prop} (s : SL K H σ ρ fp fz) (d : Disj fp fz) (e1 : ev cf a ρ = .ok x ρ1) (e2 : ev cf b ρ1 = .ok y ρ2) (hq : q = true → quiet a = true ∧ quiet b = true)
    (k : ∀ v w H2 z1 z2 f3 z3, Rep K H2 x.1 0 v [] z1 → Rep K H2 y.1 0 w [] z2 → SL K H2 σ ρ2 f3 z3 → Disj f3 ((z1 ++ z2) ++ z3) → Ext q H fp fz H2 f3 ((z1 ++ z2) ++ z3) → R v w H2) :
    tI K cf a σ H fun v H1 => tI K cf b σ H1 fun w H2 => R v w H2 := by
  refine step1 s d e1 (fun h => (hq h).1) fun v H1 z1 f2 z2 r1 s1 d1 x1 => ?_
  have t := r1.trk
  refine step1 s1 ⟨d1.1, fun a m m' => d1.2 a m (List.mem_append_right _ m')⟩ e2 (fun h => (hq h).2) fun w H2 z2' f3 z3 r2 s2 d2 x2 => ?_
  have d1' : Disj ([] ++ f2) (z1 ++ z2) := d1
  have x1' : Ext q H fp fz H1 ([] ++ f2) (z1 ++ z2) := x1
  have r1' := Rep.stay x2.stay _ _ _ _ _ r1 (fun _ m => absurd m List.not_mem_nil) d1'.off2
  refine k v w H2 z1 z2' f3 z3 r1' r2 s2 ?_ ?_
  · have := Ext.disj d1' (Trk.nil _) t.2 x2 d2
    rw [List.append_assoc]; exact this
  · have := Ext.trans x1' x2
    rw [List.append_assoc]; exact this
/-- the value of an operation: a new thing beside the slots -/
theorem pq_post {z1 f2 z2 : List Addr} {d : D} {Q : VK} {H1 : Hp} (s : SL K H1 σ ρ1 f2 z2) (dj : Disj f2 (z1 ++ z2)) (x : Ext q H fp fz H1 f2 (z1 ++ z2)) (qq : PostE q K σ H fp fz (fr d) ρ1 Q) : PQ K H1 z1 d Q := by
  intro v H' f z r st n1 n2 n3 n4
  have ts := s.trk
  have s' := SL.stay st s (by simp) (by simp)
  refine qq v H' f z f2 z2 r s' ?_ ?_ ?_
  · refine ⟨List.nodup_append.mpr ⟨n2, dj.1, fun a m b m' => ?_⟩, fun a m m' => ?_⟩
    · rintro rfl; exact ts.1 a m' (n1 a m)
    · rcases List.mem_append.mp m with m | m <;> rcases List.mem_append.mp m' with m' | m'
      · exact n3 a m m'
      · exact ts.2 a m' (n1 a m)
      · rcases n4 a m' with h | h
        · exact dj.2 a m (List.mem_append_left _ h)
        · exact ts.1 a m h
      · exact dj.2 a m (List.mem_append_right _ m')
  · refine ⟨fun a o h n => st a o (x.stay a o h n) (by simp), fun a m => ?_, fun a m => ?_⟩
    · rcases List.mem_append.mp m with m | m
      · exact (x.some (n1 a m)).symm
      · exact x.fpx a m
    · rcases List.mem_append.mp m with m | m
      · rcases n4 a m with h | h
        · exact x.fzx a (List.mem_append_left _ h)
        · exact (x.some h).elim (fun h => .inr (.inr h)) .inl
      · exact x.fzx a (List.mem_append_right _ m)
  · rintro rfl a m
    exact x.none (n1 a m)
/-- the value is there already, frozen -/
theorem post_old {z1 z f2 z2 : List Addr} {d : D} {v : V} {Q : VK} {H1 : Hp} (s : SL K H1 σ ρ1 f2 z2) (dj : Disj f2 (z1 ++ z2)) (x : Ext q H fp fz H1 f2 (z1 ++ z2)) (r : Rep K H1 d 0 v [] z) (hz : ∀ a ∈ z, a ∈ z1) (qq : PostE q K σ H fp fz (d, 0) ρ1 Q) : Q v H1 :=
  qq v H1 [] z f2 z2 r s ⟨dj.1, fun a m m' => dj.2 a m ((List.mem_append.mp m').elim (fun m => List.mem_append_left _ (hz a m)) (List.mem_append_right _))⟩
    (x.to (fun a m => m) fun a m => .inr ((List.mem_append.mp m).elim (fun m => List.mem_append_left _ (hz a m)) (List.mem_append_right _))) (fun _ _ m => absurd m List.not_mem_nil)
end
end Pi
/-! Pi7: the checker; contexts; steps of expressions. -/
namespace Pi
open PySem L2

/-- a def called with so many written arguments, then keywords; sel: the parameters' order -/
structure Shape where
  f : Str
  npos : Nat
  ks : List Str
  sel : List Nat
  deriving DecidableEq
structure MShape where
  c : Str
  f : Str
  m : Str
  np : Nat
  deriving DecidableEq
structure Tb where
  blts : List Str
  cons : List Str
  shapes : List Shape
  /-- methods: the class, the def, the short name, the written arguments; the own == of a class; classes that isinstance asks for, with the name of the test -/
  meths : List MShape := []
  nes : List MShape := []
  iscs : List Str := []
structure CkC where
  N : List Str
  sc : Scope
  fn : Str → Bool
def visB (sc : Scope) (x : Str) : Bool := match sc.names.lookup x with
  | some .local | some .cell | some .free => true
  | _ => false
def glB (sc : Scope) (x : Str) : Bool := sc.names.lookup x == some .globalImplicit
def locB (c : CkC) (x : Str) : Bool := match c.sc.names.lookup x with
  | some .local => true
  | some .cell => c.fn x
  | _ => false
def plainNm (x : Str) : Bool := !(x == ("__debug__" : Str)) && !(x == ("__classdict__" : Str)) && !(x == ("__name__" : Str))
def ckVar (c : CkC) (i : Nat) (x : Str) : Bool := (c.N[i]? == some x) && visB c.sc x && plainNm x
def ckTgt (c : CkC) (i : Nat) (x : Str) : Bool := (c.N[i]? == some x) && locB c x && plainNm x
def ckBlt (tb : Tb) (c : CkC) (x : Str) : Bool := tb.blts.contains x && glB c.sc x && plainNm x
def bnName : Bn → Str
  | .len => "len" | .int => "int" | .abs => "abs" | .max => "max" | .min => "min" | .sum => "sum" | .sorted => "sorted" | .tuple => "tuple" | .list => "list"
  | .repr => "repr" | .str => "str" | .all => "all" | .any => "any" | .bool => "bool"
def notSl : Expr → Bool
  | .Slice _ _ _ _ => false
  | _ => true
/-- the lent names among the arguments, with the parameter they stand for -/
def lendsOf : Ex → Nat → List (Nat × Nat)
  | .cons (.lend i) r, k => (i, k) :: lendsOf r (k + 1)
  | .cons _ r, k => lendsOf r (k + 1)
  | _, _ => []
def parOf (sel : List Nat) (k : Nat) : Nat := if sel.isEmpty then k else sel.idxOf k
def kwNames : List Keyword → Option (List Str)
  | [] => some []
  | ⟨some n, _, _⟩ :: r => (kwNames r).map (n :: ·)
  | _ :: _ => none
def relab (scope sc : Scope) : Scope := { scope with names := scope.names.map fun (n, k) => if (k == NameKind.free && sc.kind == .function && sc.names.lookup n == some .cell) then (n, NameKind.cell) else (n, k) }
def isSub1 : Expr → Bool
  | .UnaryOp .USub (.Constant (.int 1) _ _) _ => true
  | _ => false
def ckTg (c : CkC) : Tg → Expr → Bool
  | .nm i, .Name x _ => ckTgt c i x
  | .tp l, .Tuple xs _ _ => go l xs
  | .tn l, .Tuple xs _ _ => go1 l xs
  | _, _ => false
where
  go : List Nat → List Expr → Bool
    | [], [] => true
    | i :: is, .Name x _ :: xs => ckTgt c i x && go is xs
    | _, _ => false
  go1 : List Tg1 → List Expr → Bool
    | [], [] => true
    | .nm i :: is, .Name x _ :: xs => ckTgt c i x && go1 is xs
    | .tp l :: is, .Tuple ys _ _ :: xs => go l ys && go1 is xs
    | _, _ => false
def tg1Slots : Tg1 → List Nat
  | .nm i => [i]
  | .tp l => l
def tgSlots : Tg → List Nat
  | .nm i => [i]
  | .tp l => l
  | .tn l => l.flatMap tg1Slots
mutual
def ck (tb : Tb) (c : CkC) : Ex → Expr → Bool
  | .var i, .Name x _ => ckVar c i x
  | .mv i, .Name x _ => ckVar c i x
  | .q e, x => ck tb c e x && quiet e
  | .int i, .Constant (.int j) _ _ => i == j
  | .bl i, .Constant (.bool j) _ _ => i == j
  | .non, .Constant .none _ _ => true
  | .str i, .Constant (.str j) _ _ => i == j
  | .con j, .Name x _ => (tb.cons[j]? == some x) && glB c.sc x && plainNm x
  | .op2 o a b, .BinOp xa o' xb _ => (o == o') && ck tb c a xa && ck tb c b xb
  | .neg a, .UnaryOp .USub x _ => ck tb c a x
  | .not a, .UnaryOp .Not x _ => ck tb c a x
  | .neq f a b, .Compare xa [.NotEq] [xb] _ => ck tb c a xa && ck tb c b xb && !behindInMarks .NotEq xb && tb.nes.any fun ms => ms.f == f
  | .cmp o a b, .Compare xa [o'] [xb] _ => (o == o') && ck tb c a xa && ck tb c b xb && !behindInMarks o' xb
  | .chain o p a b d, .Compare xa [o', p'] [xb, xd] _ => (o == o') && (p == p') && ck tb c a xa && ck tb c b xb && ck tb c d xd && !lastMarks [o', p'] [xb, xd]
  | .chain3 o p q a b d g, .Compare xa [o', p', q'] [xb, xd, xg] _ => (o == o') && (p == p') && (q == q') && ck tb c a xa && ck tb c b xb && ck tb c d xd && ck tb c g xg && !lastMarks [o', p', q'] [xb, xd, xg]
  | .and a b, .BoolOp .And (xa :: xb :: r) p => ck tb c a xa && (match r with | [] => ck tb c b xb | r => ck tb c b (.BoolOp .And (xb :: r) p))
  | .or a b, .BoolOp .Or (xa :: xb :: r) p => ck tb c a xa && (match r with | [] => ck tb c b xb | r => ck tb c b (.BoolOp .Or (xb :: r) p))
  | .ite t a b, .IfExp xt xa xb _ => ckT tb c t xt && ck tb c a xa && ck tb c b xb
  | .tup _ l, .Tuple xs _ _ => ckA tb c l xs
  | .lst _ l, .List xs _ => ckA tb c l xs
  | .dict _ l, .Dict ks vs _ => ckD tb c l ks vs && decide (ks.length ≤ 15)
  | .ix a b, .Subscript xa xb _ => ck tb c a xa && ck tb c b xb && notSl xb
  | .sl a lo hi, .Subscript xa (.Slice xl xh none _) _ => ck tb c a xa && ckO tb c lo xl && ckO tb c hi xh
  | .fld a f, .Attribute xa n _ => ck tb c a xa && (n == f) && notCall xa
  | .rev a, .Subscript xa (.Slice none none (some s) _) _ => ck tb c a xa && isSub1 s
  | .call f l sel backs, .Call (.Name x _) xs kws _ => (x == f) && glB c.sc x && plainNm x && ckA tb c l (xs ++ kws.map (·.value)) && decide (sel.Nodup) && (sel.isEmpty || (lendsOf l 0).all fun p => sel.contains p.2) && (sel.all fun j => decide (j < xs.length + kws.length)) && decide ((backs.map (·.1)).Nodup) && decide ((backs.map (·.2)).Nodup) && (backs == (lendsOf l 0).map fun p => (p.1, parOf sel p.2)) &&
      (match kwNames kws with | some ks => tb.shapes.contains ⟨f, xs.length, ks, sel⟩ | none => false)
  | .mcall f o l, .Call (.Attribute xo n apos) xs [] cpos => ck tb c o xo && ckA tb c l xs && (lendsOf l 0).isEmpty && (apos.endLine == cpos.line) && decide (xs.length < 20) && notCall xo && tb.meths.any fun ms => ms.f == f && ms.m == n && ms.np == xs.length
  | .isc c0 a, .Call (.Name x _) [xa, .Name y _] [] _ => (x == ("isinstance" : Str)) && ckBlt tb c x && ck tb c a xa && plainNm y && glB c.sc y && (y == c0) && tb.iscs.contains c0
  | .blt f l, .Call (.Name x _) xs [] _ => (x == bnName f) && ckBlt tb c x && ckA tb c l xs && (lendsOf l 0).isEmpty && !xs.isEmpty
  | .lrng1 a, .Call (.Name x _) [.Call (.Name y _) [xa] [] _] [] _ => (x == ("list" : Str)) && (y == ("range" : Str)) && ckBlt tb c x && ckBlt tb c y && ck tb c a xa
  | .lrng2 a b, .Call (.Name x _) [.Call (.Name y _) [xa, xb] [] _] [] _ => (x == ("list" : Str)) && (y == ("range" : Str)) && ckBlt tb c x && ckBlt tb c y && ck tb c a xa && ck tb c b xb
  | .isin a t, .Call (.Name x _) [xa, .Name y _] [] _ => (x == ("isinstance" : Str)) && ckBlt tb c x && ck tb c a xa && (y == Str.ofString t.nm) && ckBlt tb c y
  | .mth .get o l, .Call (.Attribute xo n apos) xs [] cpos => (n == ("get" : Str)) && ck tb c o xo && ckA tb c l xs && (lendsOf l 0).isEmpty && (apos.endLine == cpos.line) && decide (xs.length < 20) && notCall xo && !xs.isEmpty
  | .mutv m i l, .Call (.Attribute (.Name x _) n apos) xs [] cpos => (n == mmName m) && ckVar c i x && ckA tb c l xs && (lendsOf l 0).isEmpty && (apos.endLine == cpos.line) && decide (xs.length < 20)
  | .mutk m i k l, .Call (.Attribute (.Subscript (.Name x _) (.Constant (.str k') _ _) _) n apos) xs [] cpos => (n == mmName m) && (k == k') && ckVar c i x && ckA tb c l xs && quiet l && (lendsOf l 0).isEmpty && (apos.endLine == cpos.line) && decide (xs.length < 20)
  | .lc _ own elt tg it cnd, .ListComp xe [⟨xt, xi, ifs, 0⟩] scope _ =>
      ckI tb c it xt xi && blkC c.N c.sc scope (own.map fun i => ((c.N[i]?).getD Str.empty, i)) && (tgSlots tg).all own.contains &&
      ckTg ⟨c.N, relab scope c.sc, fun x => scope.names.lookup x == some .cell⟩ tg xt &&
      ck tb ⟨c.N, relab scope c.sc, fun x => scope.names.lookup x == some .cell⟩ elt xe &&
      (match ifs with
       | [] => (match cnd with | .tyes => true | _ => false)
       | [xc] => ckT tb ⟨c.N, relab scope c.sc, fun x => scope.names.lookup x == some .cell⟩ cnd xc
       | _ => false)
  | _, _ => false
where
  notCall : Expr → Bool
    | .Call _ _ _ _ => false
    | _ => true
  mmName : Mm → Str
    | .append => "append" | .pop => "pop" | .extend => "extend" | .insert => "insert" | .remove => "remove" | .setdefault => "setdefault"
def ckA (tb : Tb) (c : CkC) : Ex → List Expr → Bool
  | .nil, [] => true
  | .cons (.lend i) r, .Name x _ :: xs => ckVar c i x && ckA tb c r xs
  | .cons a r, x :: xs => ck tb c a x && ckA tb c r xs
  | _, _ => false
def ckD (tb : Tb) (c : CkC) : Ex → List (Option Expr) → List Expr → Bool
  | .nil, [], [] => true
  | .cons k (.cons v r), some xk :: ks, xv :: vs => ck tb c k xk && ck tb c v xv && ckD tb c r ks vs
  | _, _, _ => false
def ckO (tb : Tb) (c : CkC) : Ex → Option Expr → Bool
  | .nil, none => true
  | .ival a, some x => ck tb c a x
  | _, _ => false
def ckT (tb : Tb) (c : CkC) : Ex → Expr → Bool
  | .tnot a, .UnaryOp .Not x _ => ckT tb c a x
  | .tand a b, .BoolOp .And (xa :: xb :: r) p => ckT tb c a xa && (match r with | [] => ckT tb c b xb | r => ckT tb c b (.BoolOp .And (xb :: r) p))
  | .tor a b, .BoolOp .Or (xa :: xb :: r) p => ckT tb c a xa && (match r with | [] => ckT tb c b xb | r => ckT tb c b (.BoolOp .Or (xb :: r) p))
  | .tcmp o a b, .Compare xa [o'] [xb] _ => (o == o') && ck tb c a xa && ck tb c b xb && !behindInMarks o' xb
  | .tchain o p a b d, .Compare xa [o', p'] [xb, xd] _ => (o == o') && (p == p') && ck tb c a xa && ck tb c b xb && ck tb c d xd && !lastMarks [o', p'] [xb, xd]
  | .tchain3 o p q a b d g, .Compare xa [o', p', q'] [xb, xd, xg] _ => (o == o') && (p == p') && (q == q') && ck tb c a xa && ck tb c b xb && ck tb c d xd && ck tb c g xg && !lastMarks [o', p', q'] [xb, xd, xg]
  | .tq a, x => ckT tb c a x && quiet a
  | .tneq f a b, .Compare xa [.NotEq] [xb] _ => ck tb c a xa && ck tb c b xb && !behindInMarks .NotEq xb && tb.nes.any fun ms => ms.f == f
  | .tval a, x => ck tb c a x && (match x with | .UnaryOp .Not _ _ | .BoolOp _ _ _ | .IfExp _ _ _ _ | .Compare _ _ _ _ => false | _ => true)
  | _, _ => false
/-- the second: the target's form -/
def ckI (tb : Tb) (c : CkC) : Ex → Expr → Expr → Bool
  | .ival a, _, x => ck tb c a x && (match x with | .Set _ _ _ => false | _ => true)
  | .irng1 a, _, .Call (.Name y _) [xa] [] _ => (y == ("range" : Str)) && ckBlt tb c y && ck tb c a xa
  | .irng2 a b, _, .Call (.Name y _) [xa, xb] [] _ => (y == ("range" : Str)) && ckBlt tb c y && ck tb c a xa && ck tb c b xb
  | .irng3 a b d, _, .Call (.Name y _) [xa, xb, xd] [] _ => (y == ("range" : Str)) && ckBlt tb c y && ck tb c a xa && ck tb c b xb && ck tb c d xd
  | .ienum a, xt, .Call (.Name y _) [xa] [] _ => (y == ("enumerate" : Str)) && ckBlt tb c y && ck tb c a xa && (match xt with | .Tuple _ _ _ => true | _ => false)
  | _, _, _ => false
end

/-! ### contexts -/
/-- a def keeps a promise where no repr runs -/
structure FnG (P : Program) (w : World) (K : PySem.W.Frag) (mg : Str → Option Value) (base : Heap) (k : Nat) (f : Addr) (fd : FuncData) (ps : List Str) (sp : Sp) : Prop where
  len : ∀ vs H Q E, sp vs H Q E → vs.length = ps.length
  run : ∀ (A : Around) (outer : List PySem.Env) (s : Shared) (H : Hp) (args : Args) (us : List Value) (vs : List V) (Q : VK) (E : XK), Room k A → A.guards = some [] → Env0 P w K mg base A outer s H → BindsTo s fd args (ps.zip us) → Vals vs us → sp vs H Q E →
    codeAny (model P w) A (.call (.ref f) args) (CR CX0 outer P w H s Q E) s
/-- the promise that the evaluator makes -/
def spD (K : PySem.W.Frag) (call : List Sl → Cr) : Sp := fun vs H Q _ => ∃ args fp fz r outs, SL K H (vs.map some) (args.map some) fp fz ∧ Disj fp fz ∧ call args = .ok r outs ∧
  ∀ v H' f1 z1 f2 z2, Rep K H' r.1 r.2 v f1 z1 → SL K H' (vs.map some) outs f2 z2 → Disj (f1 ++ f2) (z1 ++ z2) → Ext false H fp fz H' (f1 ++ f2) (z1 ++ z2) → Q v H'
/-- the promise of an __init__ of the class C -/
def spI (K : PySem.W.Frag) (C : Addr) (call : List Sl → Cr) : Sp := fun vs H Q _ => ∃ x dx avs args fp fz r outs, vs = .ref x :: avs ∧ H x = some (.ins C dx []) ∧ SL K H (avs.map some) (args.map some) fp fz ∧ Disj fp fz ∧ x ∉ fp ∧ x ∉ fz ∧ call args = .ok r outs ∧
  ∀ H', Rep K H' r.1 r.2 (.ref x) [] [x] → Stay (x :: fp) H H' → Q .non H'
structure CallOk (X : Cx) (cf : Cf) (sh : Shape) : Prop where
  ex : (∃ (a : Addr) (fd : FuncData) (ps : List Str) (k : Nat), X.mg sh.f = some (.ref a) ∧ PySem.W.keepIn X.K (.ref a) = true ∧ Room k X.A ∧ FnG X.prog X.w X.K X.mg X.base k a fd ps (spD X.K (cf.call sh.f)) ∧
    ∀ (s : Shared) (us ws : List Value), X.K.In s.heap → us.length = sh.npos → ws.length = sh.ks.length → BindsTo s fd ⟨us, sh.ks.zip ws⟩ (ps.zip (selL (us ++ ws) sh.sel))) ∨
    (∃ (C f : Addr) (fd : FuncData) (ps : List Str), X.mg sh.f = some (.ref C) ∧ Mk X.K C f ∧ sh.ks = [] ∧
      (∀ args r outs, cf.call sh.f args = .ok r outs → outs = List.replicate args.length none) ∧
      (∀ args r outs, cf.call sh.f args = .ok r outs → ∃ k, Room (k + 1) X.A ∧ FnG X.prog X.w X.K X.mg X.base k f fd ps (spI X.K C (cf.call sh.f))) ∧
      ∀ (s : Shared) (self : Value) (us : List Value), X.K.In s.heap → us.length = sh.npos → BindsTo s fd ⟨self :: us, []⟩ (ps.zip (self :: selL us sh.sel)))
structure MCallOk (X : Cx) (cf : Cf) (ms : MShape) : Prop where
  ex : ∃ (C a : Addr) (fd : FuncData) (ps : List Str) (k : Nat), PySem.W.nsIn X.K mainGlobals ms.c = some (some (.ref C)) ∧ Cls X.K C ∧ Meth X.K C ms.m a ∧ Room k X.A ∧ Room k X.A.in1 ∧ FnG X.prog X.w X.K X.mg X.base k a fd ps (spD X.K (cf.call ms.f)) ∧
    (∀ (s : Shared) (us : List Value), X.K.In s.heap → us.length = ms.np + 1 → BindsTo s fd ⟨us, []⟩ (ps.zip us)) ∧
    ∀ args r outs, cf.call ms.f args = .ok r outs → ∃ fs n rest, args = (.ins ms.c fs, n) :: rest ∧ fs.lookup ms.m = none
structure XOk (X : Cx) (tb : Tb) (cf : Cf) (c : CkC) : Prop where
  calm : X.calm = true
  nd : X.N.Nodup
  hN : X.N = c.N
  hsc : X.env.scope = c.sc
  hfn : ∀ x, c.fn x = true → X.fn x = true
  gd : X.A.guards = some []
  hu : X.A.units + 200 < cLine
  hd : X.A.handled = none
  blt : ∀ x ∈ tb.blts, X.mg x = none
  con : ∀ (j : Nat) (x : Str), tb.cons[j]? = some x → ∃ v u d, X.mg x = some u ∧ RelV v u ∧ cf.con[j]? = some d ∧ ∀ H, Rep X.K H d 0 v [] []
  calls : ∀ sh ∈ tb.shapes, CallOk X cf sh
  mcalls : ∀ ms ∈ tb.meths, MCallOk X cf ms
  nes : ∀ ms ∈ tb.nes, MCallOk X cf ms ∧ ms.m = "__eq__" ∧ ms.np = 1 ∧ 
    ∃ C, PySem.W.nsIn X.K mainGlobals ms.c = some (some (.ref C)) ∧ PySem.W.findIn X.K (.ref C) "__ne__" = some (some (.builtin "object.__ne__")) ∧ PySem.W.mroIn X.K C (.type "object") = some true
  iscs : ∀ q ∈ tb.iscs, ∃ C, X.mg q = some (.ref C) ∧ PySem.W.nsIn X.K mainGlobals q = some (some (.ref C)) ∧ C8.InsC X.K C

section
variable {X : Cx} {tb : Tb} {cf : Cf} {c : CkC}
theorem visB_ok {sc : Scope} {x : Str} (h : visB sc x = true) : Vis sc x := by
  unfold visB at h
  split at h <;> first | (rename_i e; first | exact .inl e | exact .inr (.inl e) | exact .inr (.inr e)) | cases h
theorem ckVar_ok (ok : XOk X tb cf c) {i : Nat} {x : Str} {pos : Pos} (h : ckVar c i x = true) : PE X (.Name x pos) (tVar i) := by
  simp only [ckVar, plainNm, Bool.and_eq_true, beq_iff_eq, Bool.not_eq_true'] at h
  exact pe_var (by rw [ok.hN]; exact h.1.1) (by rw [ok.hsc]; exact visB_ok h.1.2) (by simpa using h.2.1.1) (by simpa using h.2.1.2)
theorem ckTgt_ok (ok : XOk X tb cf c) {i : Nat} {x : Str} {pos : Pos} (h : ckTgt c i x = true) : PG X (.Name x pos) (gName i) := by
  simp only [ckTgt, plainNm, Bool.and_eq_true, beq_iff_eq, Bool.not_eq_true'] at h
  have hl := h.1.2
  unfold locB at hl
  split at hl
  · rename_i e
    exact pg_name ok.nd (by rw [ok.hN]; exact h.1.1) (by rw [ok.hsc]; exact .inl e) (.inr (by rw [ok.hsc]; exact e))
  · rename_i e
    exact pg_name ok.nd (by rw [ok.hN]; exact h.1.1) (by rw [ok.hsc]; exact .inr e) (.inl (ok.hfn x hl))
  · cases hl
theorem gl_ok (ok : XOk X tb cf c) {x : Str} (h : glB c.sc x = true) : Gl X x := by
  simp only [glB, beq_iff_eq] at h
  show X.env.scope.names.lookup x = some .globalImplicit
  rw [ok.hsc]; exact h
theorem plain_debug {x : Str} (h : plainNm x = true) : (x == ("__debug__" : Str)) = false := by simp only [plainNm, Bool.and_eq_true, Bool.not_eq_true'] at h; exact h.1.1
theorem plain_name {x : Str} (h : plainNm x = true) : x ≠ "__name__" := by simp only [plainNm, Bool.and_eq_true, Bool.not_eq_true'] at h; exact ne_of_beq_false h.2
theorem ckBlt_ok (ok : XOk X tb cf c) {x : Str} (h : ckBlt tb c x = true) : X.mg x = none ∧ Gl X x ∧ x ≠ "__name__" ∧ (x == ("__debug__" : Str)) = false := by
  simp only [ckBlt, Bool.and_eq_true] at h
  exact ⟨ok.blt x (by simpa using h.1.1), gl_ok ok h.1.2, plain_name h.2, plain_debug h.2⟩
theorem attr_base {o : Expr} {n : Str} {env : PySem.Env} (h : ∀ f a k p, o ≠ .Call f a k p) : attributeBase o n env (eval o env) = eval o env := by
  cases o <;> first | rfl | exact absurd rfl (h _ _ _ _)
theorem notSl_ok {b : Expr} (h : notSl b = true) : PlainIx b := by
  intro o i
  cases b <;> first | rfl | cases h
end
end Pi
/-! Pi8: each node of an expression. -/
namespace Pi
open PySem L2

section
variable {X : Cx} {tb : Tb} {cf : Cf} {c : CkC}

/-! ### names, constants -/
theorem var_ok (ok : XOk X tb cf c) {i : Nat} {x : Str} {pos : Pos} (h : ckVar c i x = true) : PE X (.Name x pos) (tI X.K cf (.var i)) := by
  refine pe_imp (ckVar_ok ok h) fun σ H Q ⟨ρ, fp, fz, d, ρ', s, dj, e, p⟩ => ?_
  simp only [ev] at e
  split at e
  · rename_i sl g
    cases e
    obtain ⟨v, f1, f2, z1, z2, hv, r, s2, pf, pz⟩ := SL.take s g
    obtain ⟨z1', r', l⟩ := r.frz
    obtain ⟨f3, z3, s3, pf3, pz3⟩ := SL.fill s2 hv r'
    refine ⟨v, hv, p v H [] z1' f3 z3 r' s3 ?_ ?_ (fun _ _ m => absurd m List.not_mem_nil)⟩
    · have l2 := l.app (Less.refl f2 z2)
      have d2 : Disj ([] ++ f2) (z1' ++ z2) := l2.disj (dj.of pf.symm fun a m => pz.mem_iff.mp m)
      refine d2.of pf3 fun a m => ?_
      rcases List.mem_append.mp m with m | m
      · exact List.mem_append_left _ m
      · exact pz3.mem_iff.mpr m
    · refine ⟨.refl _ _, fun a m => .inl ?_, fun a m => ?_⟩
      · exact pf.mem_iff.mp (List.mem_append_right _ (pf3.mem_iff.mpr m))
      · have key : ∀ a ∈ z1', a ∈ fp ∨ a ∈ fz := fun a m => (l.fz a m).elim (fun h => .inr (pz.mem_iff.mp (List.mem_append_left _ h))) fun h => .inl (pf.mem_iff.mp (List.mem_append_left _ h))
        rcases List.mem_append.mp m with m | m
        · exact (key a m).imp id .inl
        · rcases List.mem_append.mp (pz3.mem_iff.mpr m) with m | m
          · exact (key a m).imp id .inl
          · exact .inr (.inl (pz.mem_iff.mp (List.mem_append_right _ m)))
  · cases e
theorem mv_ok (ok : XOk X tb cf c) {i : Nat} {x : Str} {pos : Pos} (h : ckVar c i x = true) : PE X (.Name x pos) (tI X.K cf (.mv i)) := by
  refine pe_imp (ckVar_ok ok h) fun σ H Q ⟨ρ, fp, fz, d, ρ', s, dj, e, p⟩ => ?_
  simp only [ev] at e
  split at e
  · rename_i sl g
    cases e
    obtain ⟨v, f1, f2, z1, z2, hv, r, s2, pf, pz⟩ := SL.take s g
    refine ⟨v, hv, p v H f1 z1 f2 z2 r s2 (dj.of pf.symm fun a m => pz.mem_iff.mp m) ?_ (fun h => nomatch h)⟩
    exact (Ext.refl _ H fp fz).perm pf.symm pz.symm
  · cases e
/-- a thing that is nothing but its value -/
theorem const_ok {e : Ex} {x : Expr} {d : D} {v : V} (hv : PE X x (tC v)) (he : ∀ ρ, ev cf e ρ = .ok (d, 0) ρ) (hr : ∀ H, Rep X.K H d 0 v [] []) : PE X x (tI X.K cf e) := by
  refine pe_imp hv fun σ H Q ⟨ρ, fp, fz, d', ρ', s, dj, e, p⟩ => ?_
  rw [he] at e
  cases e
  exact p v H [] [] fp fz (hr H) s dj (.refl _ _ _ _) (fun _ _ m => absurd m List.not_mem_nil)
theorem con_ok (ok : XOk X tb cf c) {j : Nat} {x : Str} {pos : Pos} (h1 : tb.cons[j]? = some x) (h2 : glB c.sc x = true) (h3 : plainNm x = true) : PE X (.Name x pos) (tI X.K cf (.con j)) := by
  obtain ⟨v, u, d, hm, r, hc, hr⟩ := ok.con j x h1
  exact const_ok (pe_glob (gl_ok ok h2) hm r (plain_debug h3)) (fun ρ => by simp only [ev, hc, of_some, bind_ok]) hr
/-- q e: the slots are as before -/
theorem q_ok {e : Ex} {x : Expr} (ih : PE X x (tI X.K cf e)) (hq : quiet e = true) : PE X x (tI X.K cf (.q e)) := by
  refine pe_imp ih fun σ H Q ⟨ρ, fp, fz, d, ρ', s, dj, e, p⟩ => ?_
  simp only [ev] at e
  obtain ⟨d', ρ1, e1, e2⟩ := bind_inv e
  cases e2
  refine ⟨ρ, fp, fz, d, ρ1, s, dj, e1, fun v H' f1 z1 f2 z2 r s2 d2 x2 n => ?_⟩
  rw [hq] at x2
  have n1 := n hq
  cases hz : nofz d.2 d.1 with
  | false =>
    rw [hz] at p
    exact p v H' f1 z1 f2 z2 r s2 d2 (x2.weak fun _ => rfl) (fun _ => n1)
  | true =>
    rw [hz] at p
    have z0 := Rep.nofz _ _ _ _ _ hz r
    subst z0
    have ts := s.trk
    have s' : SL X.K H' σ ρ fp fz := SL.stay x2.stay s (fun _ _ m => absurd m List.not_mem_nil) (fun _ _ m => absurd m List.not_mem_nil)
    refine p v H' f1 [] fp fz r s' ?_ ?_ (fun _ => n1)
    · refine ⟨List.nodup_append.mpr ⟨(List.nodup_append.mp d2.1).1, dj.1, fun a m b m' => ?_⟩, fun a m m' => ?_⟩
      · rintro rfl; exact ts.1 a m' (n1 a m)
      · have m' : a ∈ fz := m'
        rcases List.mem_append.mp m with m | m
        · exact ts.2 a m' (n1 a m)
        · exact dj.2 a m m'
    · refine ⟨x2.stay.mono fun _ m => absurd m List.not_mem_nil, fun a m => ?_, fun a m => .inr (.inl m)⟩
      rcases List.mem_append.mp m with m | m
      · exact .inr (n1 a m)
      · exact .inl m

/-! ### operators -/
theorem and_iff2 {a b : Bool} : (a && b) = true → a = true ∧ b = true := by cases a <;> cases b <;> simp
theorem op2_pe {o : Operator} {a b : Ex} {xa xb : Expr} {pos : Pos} (ia : PE X xa (tI X.K cf a)) (ib : PE X xb (tI X.K cf b)) : PE X (.BinOp xa o xb pos) (tI X.K cf (.op2 o a b)) := by
  refine pe_imp (pe_op (op2_ok o) ia ib) fun σ H Q ⟨ρ, fp, fz, d, ρ', s, dj, e, p⟩ => ?_
  simp only [ev] at e
  obtain ⟨x, ρ1, e1, ea⟩ := bind_inv e
  obtain ⟨y, ρ2, e2, eb⟩ := bind_inv ea
  obtain ⟨w, ρ3, e3', ec⟩ := bind_inv eb
  obtain ⟨e3, rfl⟩ := of_inv e3'
  cases ec
  refine step2 (q := quiet (.op2 o a b)) s dj e1 e2 (fun h => and_iff2 (by simpa only [quiet] using h)) fun v u H2 z1 z2 f3 z3 r1 r2 s3 d3 x3 => ?_
  exact ⟨x.1, z1, y.1, z2, w, r1, r2, e3, pq_post s3 d3 x3 p⟩
theorem cmp_post {σ : St} {H H1 : Hp} {fp fz f2 z1 z2 : List Addr} {ρ1 : Env} {q : Bool} {Q : VK} {b : Bool} (s : SL X.K H1 σ ρ1 f2 z2) (dj : Disj f2 (z1 ++ z2)) (x : Ext q H fp fz H1 f2 (z1 ++ z2)) (p : PostE q X.K σ H fp fz (.bl b, 0) ρ1 Q) : Q (.bl b) H1 :=
  post_old (z1 := z1) (z := []) s dj x (by simp [Rep]) (fun _ m => absurd m List.not_mem_nil) p
theorem hu65 (ok : XOk X tb cf c) : X.A.units + 65 < cLine := by have := ok.hu; omega
theorem cmp_pe (ok : XOk X tb cf c) {o : CmpOp} {a b : Ex} {xa xb : Expr} {pos : Pos} (ia : PE X xa (tI X.K cf a)) (ib : PE X xb (tI X.K cf b)) (hm : behindInMarks o xb = false) : PE X (.Compare xa [o] [xb] pos) (tI X.K cf (.cmp o a b)) := by
  refine pe_imp (pe_cmpR (cmp_ok (hu65 ok) o) ia ib hm) fun σ H Q ⟨ρ, fp, fz, d, ρ', s, dj, e, p⟩ => ?_
  simp only [ev] at e
  obtain ⟨x, ρ1, e1, ea⟩ := bind_inv e
  obtain ⟨y, ρ2, e2, eb⟩ := bind_inv ea
  obtain ⟨w, ρ3, e3', ec⟩ := bind_inv eb
  obtain ⟨e3, rfl⟩ := of_inv e3'
  cases ec
  refine step2 (q := quiet (.cmp o a b)) s dj e1 e2 (fun h => and_iff2 (by simpa only [quiet] using h)) fun v u H2 z1 z2 f3 z3 r1 r2 s3 d3 x3 => ?_
  exact ⟨x.1, z1, y.1, z2, w, r1, r2, e3, cmp_post s3 d3 x3 p⟩
theorem tcmp_pt (ok : XOk X tb cf c) {o : CmpOp} {a b : Ex} {xa xb : Expr} {pos : Pos} (ia : PE X xa (tI X.K cf a)) (ib : PE X xb (tI X.K cf b)) (hm : behindInMarks o xb = false) : PT X (.Compare xa [o] [xb] pos) (tIT X.K cf (.tcmp o a b)) := by
  refine pt_imp (pt_cmpR (cmp_ok (hu65 ok) o) ia ib hm) fun σ H Q ⟨ρ, fp, fz, d, ρ', s, dj, e, p⟩ => ?_
  simp only [evT] at e
  obtain ⟨x, ρ1, e1, ea⟩ := bind_inv e
  obtain ⟨y, ρ2, e2, eb⟩ := bind_inv ea
  obtain ⟨e3, rfl⟩ := of_inv eb
  show tI X.K cf a σ H _
  refine step2 (q := quiet (.tcmp o a b)) s dj e1 e2 (fun h => and_iff2 (by simpa only [quiet] using h)) fun v u H2 z1 z2 f3 z3 r1 r2 s3 d3 x3 => ?_
  refine ⟨x.1, z1, y.1, z2, d, r1, r2, e3, d, rfl, ?_⟩
  exact p H2 f3 z3 s3 ⟨d3.1, fun a m m' => d3.2 a m (List.mem_append_right _ m')⟩ (x3.to (fun _ m => m) fun a m => .inr (List.mem_append_right _ m))
/-- a op b op' c, from the state behind a and b -/
theorem chain_in (ok : XOk X tb cf c) {o o' : CmpOp} {a b d : Ex} {σ : St} {H : Hp} {fp fz : List Addr} {ρ ρ' : Env} {r : Bool} {q : Bool} {Q : VK} (s : SL X.K H σ ρ fp fz) (dj : Disj fp fz)
    (e : ((ev cf a ρ).bind fun x ρ1 => (ev cf b ρ1).bind fun y ρ2 => (Rs.of (cmpD o x.1 y.1) ρ2).bind fun t ρ3 => if t then (ev cf d ρ3).bind fun z ρ4 => Rs.of (cmpD o' y.1 z.1) ρ4 else .ok false ρ3) = .ok r ρ')
    (hq : q = true → quiet a = true ∧ quiet b = true ∧ quiet d = true)
    (p : ∀ H' f2 z2, SL X.K H' σ ρ' f2 z2 → Disj f2 z2 → Ext q H fp fz H' f2 z2 → Q (.bl r) H') :
    tChain (rC X.K (cmpD o)) (rC X.K (cmpD o')) (tI X.K cf a) (tI X.K cf b) (tI X.K cf d) σ H Q := by
  obtain ⟨x, ρ1, e1, ea⟩ := bind_inv e
  obtain ⟨y, ρ2, e2, eb⟩ := bind_inv ea
  obtain ⟨t, ρ3, e3', ec⟩ := bind_inv eb
  clear e ea eb
  obtain ⟨e3, rfl⟩ := of_inv e3'
  refine step2 (q := q) s dj e1 e2 (fun h => ⟨(hq h).1, (hq h).2.1⟩) fun v u H2 z1 z2 f3 z3 r1 r2 s3 d3 x3 => ?_
  refine ⟨x.1, z1, y.1, z2, t, r1, r2, e3, t, rfl, ?_⟩
  cases t with
  | false =>
    simp only [Bool.false_eq_true, if_false] at ec ⊢
    cases ec
    exact p H2 f3 z3 s3 ⟨d3.1, fun a m m' => d3.2 a m (List.mem_append_right _ m')⟩ (x3.to (fun _ m => m) fun a m => .inr (List.mem_append_right _ m))
  | true =>
    simp only [if_true] at ec ⊢
    obtain ⟨w, ρ4, e4, ed⟩ := bind_inv ec
    obtain ⟨e5, rfl⟩ := of_inv ed
    have tr := r2.trk
    have d3' : Disj ([] ++ f3) (z2 ++ z3) := ⟨d3.1, fun a m m' => d3.2 a m (by simp only [List.mem_append] at m' ⊢; rcases m' with h | h <;> simp [h])⟩
    refine step1 (q := q) s3 d3'.right e4 (fun h => (hq h).2.2) fun v4 H4 z4 f5 z5 r4 s4 d4 x4 => ?_
    have r2' := Rep.stay x4.stay _ _ _ _ _ r2 (fun _ m => absurd m List.not_mem_nil) d3'.off2
    refine ⟨y.1, z2, w.1, z4, r, r2', r4, e5, ?_⟩
    have x3' : Ext q H fp fz H2 ([] ++ f3) ([] ++ z3) := x3.to (fun _ m => m) fun a m => .inr (List.mem_append_right _ m)
    have x5 := Ext.trans x3' x4
    exact p H4 f5 z5 s4 ⟨d4.1, fun a m m' => d4.2 a m (List.mem_append_right _ m')⟩ (x5.to (fun _ m => m) fun a m => .inr (List.mem_append_right _ (List.mem_append_right _ m)))
theorem and_iff3 {a b d : Bool} : (a && b && d) = true → a = true ∧ b = true ∧ d = true := by cases a <;> cases b <;> cases d <;> simp
theorem chain_pe (ok : XOk X tb cf c) {o o' : CmpOp} {a b d : Ex} {xa xb xd : Expr} {pos : Pos} (ia : PE X xa (tI X.K cf a)) (ib : PE X xb (tI X.K cf b)) (id : PE X xd (tI X.K cf d)) (hm : lastMarks [o, o'] [xb, xd] = false) : PE X (.Compare xa [o, o'] [xb, xd] pos) (tI X.K cf (.chain o o' a b d)) := by
  refine pe_imp (pe_chain (cmp_ok (hu65 ok) o) (cmp_ok (hu65 ok) o') ia ib id hm) fun σ H Q ⟨ρ, fp, fz, w, ρ', s, dj, e, p⟩ => ?_
  simp only [ev] at e
  have key : ∃ r, w = (.bl r, 0) ∧ ((ev cf a ρ).bind fun x ρ1 => (ev cf b ρ1).bind fun y ρ2 => (Rs.of (cmpD o x.1 y.1) ρ2).bind fun t ρ3 => if t then (ev cf d ρ3).bind fun z ρ4 => Rs.of (cmpD o' y.1 z.1) ρ4 else .ok false ρ3) = .ok r ρ' := by
    obtain ⟨x, ρ1, e1, ea⟩ := bind_inv e
    obtain ⟨y, ρ2, e2, eb⟩ := bind_inv ea
    obtain ⟨t, ρ3, e3, ec⟩ := bind_inv eb
    clear e ea eb
    cases t with
    | false =>
      simp only [Bool.false_eq_true, if_false] at ec
      cases ec
      exact ⟨false, rfl, by simp [e1, e2, e3, bind_ok]⟩
    | true =>
      simp only [if_true] at ec
      obtain ⟨z, ρ4, e4, ed⟩ := bind_inv ec
      obtain ⟨r, ρ5, e5', ef⟩ := bind_inv ed
      cases ef
      obtain ⟨e5, rfl⟩ := of_inv e5'
      exact ⟨r, rfl, by simp [e1, e2, e3, e4, e5, bind_ok, of_some]⟩
  clear e
  obtain ⟨r, rfl, e⟩ := key
  refine chain_in ok s dj e (fun h => and_iff3 (by simpa only [quiet] using h)) fun H' f2 z2 s2 d2 x2 => ?_
  exact p _ H' [] [] f2 z2 (by simp [Rep]) s2 d2 x2 (fun _ _ m => absurd m List.not_mem_nil)
theorem tchain_pt (ok : XOk X tb cf c) {o o' : CmpOp} {a b d : Ex} {xa xb xd : Expr} {pos : Pos} (ia : PE X xa (tI X.K cf a)) (ib : PE X xb (tI X.K cf b)) (id : PE X xd (tI X.K cf d)) (hm : lastMarks [o, o'] [xb, xd] = false) : PT X (.Compare xa [o, o'] [xb, xd] pos) (tIT X.K cf (.tchain o o' a b d)) := by
  refine pt_imp (pt_chain (cmp_ok (hu65 ok) o) (cmp_ok (hu65 ok) o') ia ib id hm) fun σ H Q ⟨ρ, fp, fz, r, ρ', s, dj, e, p⟩ => ?_
  simp only [evT] at e
  exact chain_in ok s dj e (fun h => and_iff3 (by simpa only [quiet] using h)) fun H' f2 z2 s2 d2 x2 => ⟨r, rfl, p H' f2 z2 s2 d2 x2⟩
theorem neg_pe {a : Ex} {xa : Expr} {pos : Pos} (ia : PE X xa (tI X.K cf a)) : PE X (.UnaryOp .USub xa pos) (tI X.K cf (.neg a)) := by
  refine pe_imp (pe_un un_neg ia) fun σ H Q ⟨ρ, fp, fz, w, ρ', s, dj, e, p⟩ => ?_
  simp only [ev] at e
  obtain ⟨⟨x, n⟩, ρ1, e1, e⟩ := bind_inv e
  cases x <;> simp only [reduceCtorEq] at e
  rename_i i
  cases e
  refine step1 (q := quiet (.neg a)) s dj e1 (fun h => by simpa only [quiet] using h) fun v H1 z1 f2 z2 r s2 d2 x2 => ?_
  cases r.toInt
  exact ⟨i, rfl, post_old (z1 := z1) (z := []) s2 d2 x2 (by simp [Rep]) (fun _ m => absurd m List.not_mem_nil) p⟩
theorem empty_eq {α β : Type} {l : List α} {m : List β} (h : m.length = l.length) : (!l.isEmpty) = !m.isEmpty := by
  cases l <;> cases m <;> simp_all
theorem tru_rep {H : Hp} {d : D} {v : V} {z : List Addr} {b : Bool} (r : Rep X.K H d 0 v [] z) (t : truthD d = some b) : TruV X.K v H b := by
  cases d with
  | non => cases r.toNon; simp only [truthD, Option.some.injEq] at t; exact t.symm
  | bl i => cases r.toBl; simp only [truthD, Option.some.injEq] at t; exact t.symm
  | int i => cases r.toInt; simp only [truthD, Option.some.injEq] at t; exact t.symm
  | str i =>
    cases r.toStr
    simp only [truthD] at t
    split at t
    · rename_i h
      cases t
      exact ⟨h, rfl⟩
    · cases t
  | tup l =>
    simp only [truthD, Option.some.injEq] at t
    obtain ⟨a, vs, rfl, h, rl⟩ := r.toTup
    exact .inr (.inl ⟨vs, SqT.of h, by rw [← t, empty_eq (RepL.len rl)]⟩)
  | ctup l =>
    simp only [truthD, Option.some.injEq] at t
    obtain ⟨a, vs, rfl, h, rl⟩ := r.toCtup
    exact .inr (.inl ⟨vs, h, by rw [← t, empty_eq (RepL.len rl)]⟩)
  | lst l =>
    simp only [truthD, Option.some.injEq] at t
    obtain ⟨a, vs, _, rfl, h, rl, rfl⟩ := r.toLst
    exact .inl ⟨vs, SqL.of h, by rw [← t, empty_eq (RepL.len rl)]⟩
  | _ => simp [truthD] at t
theorem not_pe {a : Ex} {xa : Expr} {pos : Pos} (ia : PE X xa (tI X.K cf a)) : PE X (.UnaryOp .Not xa pos) (tI X.K cf (.not a)) := by
  refine pe_imp (pe_notT ia) fun σ H Q ⟨ρ, fp, fz, w, ρ', s, dj, e, p⟩ => ?_
  simp only [ev] at e
  obtain ⟨x, ρ1, e1, ea⟩ := bind_inv e
  obtain ⟨b, ρ2, e2', eb⟩ := bind_inv ea
  clear e ea
  obtain ⟨e2, rfl⟩ := of_inv e2'
  cases eb
  refine step1 (q := quiet (.not a)) s dj e1 (fun h => by simpa only [quiet] using h) fun v H1 z1 f2 z2 r s2 d2 x2 => ?_
  exact ⟨b, tru_rep r e2, cmp_post s2 d2 x2 p⟩
theorem tval_pt {a : Ex} {xa : Expr} (ia : PE X xa (tI X.K cf a)) (he : ∀ whole, isTrue xa X.env whole = (do let v ← whole; standAt xa.pos; holding [v] (truthy v))) : PT X xa (tIT X.K cf (.tval a)) := by
  refine pt_imp (pt_truth ia he) fun σ H Q ⟨ρ, fp, fz, w, ρ', s, dj, e, p⟩ => ?_
  simp only [evT] at e
  obtain ⟨x, ρ1, e1, ea⟩ := bind_inv e
  clear e
  obtain ⟨e2, rfl⟩ := of_inv ea
  refine step1 (q := quiet (.tval a)) s dj e1 (fun h => by simpa only [quiet] using h) fun v H1 z1 f2 z2 r s2 d2 x2 => ?_
  exact ⟨w, tru_rep r e2, p H1 f2 z2 s2 ⟨d2.1, fun a m m' => d2.2 a m (List.mem_append_right _ m')⟩ (x2.to (fun _ m => m) fun a m => .inr (List.mem_append_right _ m))⟩
/-! ### and, or, if -/
/-- from behind a first part on -/
theorem post_then {q : Bool} {σ : St} {H H1 : Hp} {fp fz f2 z2 : List Addr} {ρ' : Env} {d : Sl} {Q : VK} {z1 : List Addr} (x : Ext q H fp fz H1 f2 (z1 ++ z2)) (p : PostE q X.K σ H fp fz d ρ' Q) : PostE q X.K σ H1 f2 z2 d ρ' Q := by
  intro v H' g1 y1 g2 y2 r s d2 x2 n
  have x' : Ext q H fp fz H1 f2 z2 := x.to (fun _ m => m) fun a m => .inr (List.mem_append_right _ m)
  refine p v H' g1 y1 g2 y2 r s d2 (Ext.trans0 x' x2) fun h a m => ?_
  subst h
  exact x'.none (n rfl a m)
theorem post_weak {q q' : Bool} {σ : St} {H : Hp} {fp fz : List Addr} {ρ' : Env} {d : Sl} {Q : VK} (h : q = true → q' = true) (p : PostE q X.K σ H fp fz d ρ' Q) : PostE q' X.K σ H fp fz d ρ' Q :=
  fun v H' g1 y1 g2 y2 r s d2 x2 n => p v H' g1 y1 g2 y2 r s d2 (x2.weak h) fun e => n (h e)
theorem posts_then {q : Bool} {σ : St} {H H1 : Hp} {fp fz f2 z2 : List Addr} {ρ' : Env} {Q : Hp → Prop} (x : Ext q H fp fz H1 f2 z2) (p : PostS q X.K σ H fp fz ρ' Q) : PostS q X.K σ H1 f2 z2 ρ' Q :=
  fun H' g2 y2 s d2 x2 => p H' g2 y2 s d2 (Ext.trans0 x x2)
theorem posts_weak {q q' : Bool} {σ : St} {H : Hp} {fp fz : List Addr} {ρ' : Env} {Q : Hp → Prop} (h : q = true → q' = true) (p : PostS q X.K σ H fp fz ρ' Q) : PostS q' X.K σ H fp fz ρ' Q :=
  fun H' g2 y2 s d2 x2 => p H' g2 y2 s d2 (x2.weak h)
theorem and_pe {a b : Ex} {xa xb : Expr} {r : List Expr} {pos : Pos} (ia : PE X xa (tI X.K cf a)) (ib : PE X (.BoolOp .And (xb :: r) pos) (tI X.K cf b)) : PE X (.BoolOp .And (xa :: xb :: r) pos) (tI X.K cf (.and a b)) := by
  refine pe_imp (pe_and ia ib) fun σ H Q ⟨ρ, fp, fz, w, ρ', s, dj, e, p⟩ => ?_
  simp only [ev] at e
  obtain ⟨⟨x, n⟩, ρ1, e1, ea⟩ := bind_inv e
  clear e
  have hq : quiet (.and a b) = true → quiet a = true ∧ quiet b = true := fun h => and_iff2 (by simpa only [quiet] using h)
  refine step1 (q := quiet (.and a b)) s dj e1 (fun h => (hq h).1) fun v H1 z1 f2 z2 r s2 d2 x2 => ?_
  cases x <;> simp only [reduceCtorEq] at ea
  rename_i k
  cases r.toBl
  refine ⟨k, rfl, ?_⟩
  cases k with
  | true =>
    simp only [if_true] at ea ⊢
    exact ⟨ρ1, f2, z2, w, ρ', s2, ⟨d2.1, fun a m m' => d2.2 a m (List.mem_append_right _ m')⟩, ea, post_weak (fun h => (hq h).2) (post_then x2 p)⟩
  | false =>
    simp only [Bool.false_eq_true, if_false] at ea ⊢
    cases ea
    exact cmp_post s2 d2 x2 p
theorem or_pe {a b : Ex} {xa xb : Expr} {r : List Expr} {pos : Pos} (ia : PE X xa (tI X.K cf a)) (ib : PE X (.BoolOp .Or (xb :: r) pos) (tI X.K cf b)) : PE X (.BoolOp .Or (xa :: xb :: r) pos) (tI X.K cf (.or a b)) := by
  refine pe_imp (pe_or ia ib) fun σ H Q ⟨ρ, fp, fz, w, ρ', s, dj, e, p⟩ => ?_
  simp only [ev] at e
  obtain ⟨⟨x, n⟩, ρ1, e1, ea⟩ := bind_inv e
  clear e
  have hq : quiet (.or a b) = true → quiet a = true ∧ quiet b = true := fun h => and_iff2 (by simpa only [quiet] using h)
  refine step1 (q := quiet (.or a b)) s dj e1 (fun h => (hq h).1) fun v H1 z1 f2 z2 r s2 d2 x2 => ?_
  cases x <;> simp only [reduceCtorEq] at ea
  rename_i k
  cases r.toBl
  refine ⟨k, rfl, ?_⟩
  cases k with
  | false =>
    simp only [Bool.false_eq_true, if_false] at ea ⊢
    exact ⟨ρ1, f2, z2, w, ρ', s2, ⟨d2.1, fun a m m' => d2.2 a m (List.mem_append_right _ m')⟩, ea, post_weak (fun h => (hq h).2) (post_then x2 p)⟩
  | true =>
    simp only [if_true] at ea ⊢
    cases ea
    exact cmp_post s2 d2 x2 p
theorem ite_pe {t a b : Ex} {xt xa xb : Expr} {pos : Pos} (it : PT X xt (tIT X.K cf t)) (ia : PE X xa (tI X.K cf a)) (ib : PE X xb (tI X.K cf b)) : PE X (.IfExp xt xa xb pos) (tI X.K cf (.ite t a b)) := by
  refine pe_imp (pe_ifExp it ia ib) fun σ H Q ⟨ρ, fp, fz, w, ρ', s, dj, e, p⟩ => ?_
  simp only [ev] at e
  obtain ⟨k, ρ1, e1, ea⟩ := bind_inv e
  clear e
  have hq : quiet (.ite t a b) = true → quiet t = true ∧ quiet a = true ∧ quiet b = true := fun h => and_iff3 (by simpa only [quiet] using h)
  refine ⟨ρ, fp, fz, k, ρ1, s, dj, e1, fun H1 f2 z2 s2 d2 x2 => ?_⟩
  have x2' : Ext (quiet (.ite t a b)) H fp fz H1 f2 ([] ++ z2) := x2.weak fun h => (hq h).1
  cases k with
  | true =>
    simp only [if_true] at ea ⊢
    exact ⟨ρ1, f2, z2, w, ρ', s2, d2, ea, post_weak (fun h => (hq h).2.1) (post_then x2' p)⟩
  | false =>
    simp only [Bool.false_eq_true, if_false] at ea ⊢
    exact ⟨ρ1, f2, z2, w, ρ', s2, d2, ea, post_weak (fun h => (hq h).2.2) (post_then x2' p)⟩
/-- tests of parts -/
theorem tnot_pt {a : Ex} {xa : Expr} {pos : Pos} (ia : PT X xa (tIT X.K cf a)) : PT X (.UnaryOp .Not xa pos) (tIT X.K cf (.tnot a)) := by
  refine pt_imp (pt_not ia) fun σ H Q ⟨ρ, fp, fz, w, ρ', s, dj, e, p⟩ => ?_
  simp only [evT] at e
  obtain ⟨k, ρ1, e1, ea⟩ := bind_inv e
  cases ea
  exact ⟨ρ, fp, fz, k, ρ', s, dj, e1, p⟩
theorem tq_pt {a : Ex} {xa : Expr} (ia : PT X xa (tIT X.K cf a)) (hq : quiet a = true) : PT X xa (tIT X.K cf (.tq a)) := by
  refine pt_imp ia fun σ H Q ⟨ρ, fp, fz, w, ρ', s, dj, e, p⟩ => ?_
  simp only [evT] at e
  obtain ⟨k, ρ1, e1, ea⟩ := bind_inv e
  cases ea
  refine ⟨ρ, fp, fz, w, ρ1, s, dj, e1, fun H1 f2 z2 s2 d2 x2 => ?_⟩
  rw [hq] at x2
  have s' : SL X.K H1 σ ρ fp fz := SL.stay x2.stay s (fun _ _ m => absurd m List.not_mem_nil) (fun _ _ m => absurd m List.not_mem_nil)
  exact p H1 fp fz s' dj ⟨x2.stay.mono fun _ m => absurd m List.not_mem_nil, fun a m => .inl m, fun a m => .inr (.inl m)⟩
/-- what a chain of tests is, whatever stands behind -/
def PWs (X : Cx) (op : BoolOp) (xs : List Expr) (pos : Pos) (t : TT) : Prop := PW X (.BoolOp op xs pos) t
theorem tand_pw {a b : Ex} {xa xb : Expr} {r : List Expr} {pos : Pos} (ia : PT X xa (tIT X.K cf a)) (ib : PW X (.BoolOp .And (xb :: r) pos) (tIT X.K cf b)) : PW X (.BoolOp .And (xa :: xb :: r) pos) (tIT X.K cf (.tand a b)) := by
  refine pw_imp (pw_and ia ib) fun σ H Q ⟨ρ, fp, fz, w, ρ', s, dj, e, p⟩ => ?_
  simp only [evT] at e
  obtain ⟨k, ρ1, e1, ea⟩ := bind_inv e
  clear e
  have hq : quiet (.tand a b) = true → quiet a = true ∧ quiet b = true := fun h => and_iff2 (by simpa only [quiet] using h)
  refine ⟨ρ, fp, fz, k, ρ1, s, dj, e1, fun H1 f2 z2 s2 d2 x2 => ?_⟩
  have x2' : Ext (quiet (.tand a b)) H fp fz H1 f2 z2 := x2.weak fun h => (hq h).1
  cases k with
  | true =>
    simp only [if_true] at ea ⊢
    exact ⟨ρ1, f2, z2, w, ρ', s2, d2, ea, posts_weak (fun h => (hq h).2) (posts_then x2' p)⟩
  | false =>
    simp only [Bool.false_eq_true, if_false] at ea ⊢
    cases ea
    exact p H1 f2 z2 s2 d2 x2'
theorem tor_pw {a b : Ex} {xa xb : Expr} {r : List Expr} {pos : Pos} (ia : PT X xa (tIT X.K cf a)) (ib : PW X (.BoolOp .Or (xb :: r) pos) (tIT X.K cf b)) : PW X (.BoolOp .Or (xa :: xb :: r) pos) (tIT X.K cf (.tor a b)) := by
  refine pw_imp (pw_or ia ib) fun σ H Q ⟨ρ, fp, fz, w, ρ', s, dj, e, p⟩ => ?_
  simp only [evT] at e
  obtain ⟨k, ρ1, e1, ea⟩ := bind_inv e
  clear e
  have hq : quiet (.tor a b) = true → quiet a = true ∧ quiet b = true := fun h => and_iff2 (by simpa only [quiet] using h)
  refine ⟨ρ, fp, fz, k, ρ1, s, dj, e1, fun H1 f2 z2 s2 d2 x2 => ?_⟩
  have x2' : Ext (quiet (.tor a b)) H fp fz H1 f2 z2 := x2.weak fun h => (hq h).1
  cases k with
  | false =>
    simp only [Bool.false_eq_true, if_false] at ea ⊢
    exact ⟨ρ1, f2, z2, w, ρ', s2, d2, ea, posts_weak (fun h => (hq h).2) (posts_then x2' p)⟩
  | true =>
    simp only [if_true] at ea ⊢
    cases ea
    exact p H1 f2 z2 s2 d2 x2'
end
end Pi
/-! Pi8c: chains of three comparisons. -/
namespace Pi
open PySem L2
section
open PySem.Spec PyProof.Rows
variable {X : Cx} {a b c d : Expr} {ta tb tc td : TE} {pos : Pos}
/-- a op1 b op2 c op3 d -/
def tChain3 (r r' r2 : R2) (ta tb tc td : TE) : TE := fun σ H Q => ta σ H fun x H1 => tb σ H1 fun y H2 => r x y H2 fun z H3 => ∃ k, z = .bl k ∧
  (if k = true then tc σ H3 fun w H4 => r' y w H4 fun z2 H5 => ∃ k2, z2 = .bl k2 ∧ (if k2 = true then td σ H5 fun w2 H6 => r2 w w2 H6 Q else Q (.bl false) H5) else Q (.bl false) H3)
theorem pe_chain3 {op op' op2 : CmpOp} {r r' r2 : R2} (ho : OpR X (compareOp op) r) (ho' : OpR X (compareOp op') r') (ho2 : OpR X (compareOp op2) r2) (ha : PE X a ta) (hb : PE X b tb) (hc : PE X c tc) (hd : PE X d td)
    (hm : lastMarks [op, op', op2] [b, c, d] = false) : PE X (.Compare a [op, op', op2] [b, c, d] pos) (tChain3 r r' r2 ta tb tc td) := by
  refine ⟨fun pins s σ H Q I h => ?_⟩
  refine Compare_chain (thn (ha.run pins s σ H _ I h) fun v s1 ⟨x, H1, I1, r1, q1⟩ => chain_link (thn (hb.run pins s1 σ H1 _ I1 q1) fun u s2 ⟨y, H2, I2, r2, q2⟩ =>
    thn (ho pins s2 σ H2 x y v u _ I2 r1 r2 q2) fun d s3 ⟨z, H3, I3, r3, k, e, q3⟩ => ?_)) hm
  subst e
  cases r3
  refine wpAny_truthy_bool ?_
  cases k with
  | false => exact ite_ff ⟨.bl false, H3, I3, rfl, q3⟩
  | true =>
    refine ite_tt (chain_link (thn (hc.run pins s3 σ H3 _ I3 q3) fun w' s4 ⟨z', H4, I4, r4, q4⟩ => thn (ho' pins s4 σ H4 y z' u w' _ I4 r2 r4 q4) fun d5 s5 ⟨z5, H5, I5, r5, k5, e5, q5⟩ => ?_))
    subst e5
    cases r5
    refine wpAny_truthy_bool ?_
    cases k5 with
    | false => exact ite_ff ⟨.bl false, H5, I5, rfl, q5⟩
    | true => exact ite_tt (chain_last (thn (hd.run pins s5 σ H5 _ I5 q5) fun w7 s6 ⟨z7, H6, I6, r6, q6⟩ => ho2 pins s6 σ H6 z' z7 w' w7 Q I6 r4 r6 q6))
theorem pt_chain3 {op op' op2 : CmpOp} {r r' r2 : R2} (ho : OpR X (compareOp op) r) (ho' : OpR X (compareOp op') r') (ho2 : OpR X (compareOp op2) r2) (ha : PE X a ta) (hb : PE X b tb) (hc : PE X c tc) (hd : PE X d td)
    (hm : lastMarks [op, op', op2] [b, c, d] = false) : PT X (.Compare a [op, op', op2] [b, c, d] pos) (tTest (tChain3 r r' r2 ta tb tc td)) := by
  refine ⟨fun pins s σ H Q I h => ?_⟩
  refine isTrue_chain (thn (ha.run pins s σ H _ I h) fun v s1 ⟨x, H1, I1, r1, q1⟩ => test_link (thn (hb.run pins s1 σ H1 _ I1 q1) fun u s2 ⟨y, H2, I2, r2, q2⟩ =>
    thn (ho pins s2 σ H2 x y v u _ I2 r1 r2 q2) fun d s3 ⟨z, H3, I3, r3, k, e, q3⟩ => ?_)) hm
  subst e
  cases r3
  refine wpAny_truthy_bool ?_
  cases k with
  | false =>
    obtain ⟨k', e', q'⟩ := q3
    cases e'
    exact ite_ff ⟨H3, I3, q'⟩
  | true =>
    refine ite_tt (test_link (thn (hc.run pins s3 σ H3 _ I3 q3) fun w' s4 ⟨z', H4, I4, r4, q4⟩ => thn (ho' pins s4 σ H4 y z' u w' _ I4 r2 r4 q4) fun d5 s5 ⟨z5, H5, I5, r5, k5, e5, q5⟩ => ?_))
    subst e5
    cases r5
    refine wpAny_truthy_bool ?_
    cases k5 with
    | false =>
      obtain ⟨k', e', q'⟩ := q5
      cases e'
      exact ite_ff ⟨H5, I5, q'⟩
    | true =>
      refine ite_tt (test_last (thn (hd.run pins s5 σ H5 _ I5 q5) fun w7 s6 ⟨z7, H6, I6, r6, q6⟩ => thn (ho2 pins s6 σ H6 z' z7 w' w7 _ I6 r4 r6 q6) fun d8 s8 ⟨z8, H8, I8, r8, k8, e8, q8⟩ => ?_))
      subst e8
      cases r8
      exact wpAny_truthy_bool ⟨H8, I8, q8⟩
end
section
variable {X : Cx} {tb : Tb} {cf : Cf} {c : CkC}
theorem and_iff4 {a b d g : Bool} : (a && b && d && g) = true → a = true ∧ b = true ∧ d = true ∧ g = true := by cases a <;> cases b <;> cases d <;> cases g <;> simp
theorem chain3_in (ok : XOk X tb cf c) {o o' o2 : CmpOp} {a b d g : Ex} {σ : St} {H : Hp} {fp fz : List Addr} {ρ ρ' : Env} {r : Bool} {q : Bool} {Q : VK} (s : SL X.K H σ ρ fp fz) (dj : Disj fp fz)
    (e : ((ev cf a ρ).bind fun x ρ1 => (ev cf b ρ1).bind fun y ρ2 => (Rs.of (cmpD o x.1 y.1) ρ2).bind fun t ρ3 =>
      if t then (ev cf d ρ3).bind fun z ρ4 => (Rs.of (cmpD o' y.1 z.1) ρ4).bind fun t2 ρ5 => if t2 then (ev cf g ρ5).bind fun w ρ6 => Rs.of (cmpD o2 z.1 w.1) ρ6 else .ok false ρ5 else .ok false ρ3) = .ok r ρ')
    (hq : q = true → quiet a = true ∧ quiet b = true ∧ quiet d = true ∧ quiet g = true)
    (p : ∀ H' f2 z2, SL X.K H' σ ρ' f2 z2 → Disj f2 z2 → Ext q H fp fz H' f2 z2 → Q (.bl r) H') :
    tChain3 (rC X.K (cmpD o)) (rC X.K (cmpD o')) (rC X.K (cmpD o2)) (tI X.K cf a) (tI X.K cf b) (tI X.K cf d) (tI X.K cf g) σ H Q := by
  obtain ⟨x, ρ1, e1, ea⟩ := bind_inv e
  obtain ⟨y, ρ2, e2, eb⟩ := bind_inv ea
  obtain ⟨t, ρ3, e3', ec⟩ := bind_inv eb
  clear e ea eb
  obtain ⟨e3, rfl⟩ := of_inv e3'
  refine step2 (q := q) s dj e1 e2 (fun h => ⟨(hq h).1, (hq h).2.1⟩) fun v u H2 z1 z2 f3 z3 r1 r2 s3 d3 x3 => ?_
  refine ⟨x.1, z1, y.1, z2, t, r1, r2, e3, t, rfl, ?_⟩
  cases t with
  | false =>
    simp only [Bool.false_eq_true, if_false] at ec ⊢
    cases ec
    exact p H2 f3 z3 s3 ⟨d3.1, fun a m m' => d3.2 a m (List.mem_append_right _ m')⟩ (x3.to (fun _ m => m) fun a m => .inr (List.mem_append_right _ m))
  | true =>
    simp only [if_true] at ec ⊢
    obtain ⟨w, ρ4, e4, ed⟩ := bind_inv ec
    obtain ⟨t2, ρ5, e5', ee⟩ := bind_inv ed
    obtain ⟨e5, rfl⟩ := of_inv e5'
    have tr := r2.trk
    have d3' : Disj ([] ++ f3) (z2 ++ z3) := ⟨d3.1, fun a m m' => d3.2 a m (by simp only [List.mem_append] at m' ⊢; rcases m' with h | h <;> simp [h])⟩
    refine step1 (q := q) s3 d3'.right e4 (fun h => (hq h).2.2.1) fun v4 H4 z4 f5 z5 r4 s4 d4 x4 => ?_
    have r2' := Rep.stay x4.stay _ _ _ _ _ r2 (fun _ m => absurd m List.not_mem_nil) d3'.off2
    refine ⟨y.1, z2, w.1, z4, t2, r2', r4, e5, t2, rfl, ?_⟩
    have x3' : Ext q H fp fz H2 ([] ++ f3) ([] ++ z3) := x3.to (fun _ m => m) fun a m => .inr (List.mem_append_right _ m)
    have x5 := Ext.trans x3' x4
    have x5' : Ext q H fp fz H4 f5 (z4 ++ z5) := x5.to (fun _ m => m) fun a m => .inr m
    cases t2 with
    | false =>
      simp only [Bool.false_eq_true, if_false] at ee ⊢
      cases ee
      exact p H4 f5 z5 s4 ⟨d4.1, fun a m m' => d4.2 a m (List.mem_append_right _ m')⟩ (x5'.to (fun _ m => m) fun a m => .inr (List.mem_append_right _ m))
    | true =>
      simp only [if_true] at ee ⊢
      obtain ⟨w2, ρ6, e6, ef⟩ := bind_inv ee
      obtain ⟨e7, rfl⟩ := of_inv ef
      have d4' : Disj ([] ++ f5) (z4 ++ z5) := d4
      refine step1 (q := q) s4 d4'.right e6 (fun h => (hq h).2.2.2) fun v6 H6 z6 f7 z7 r6 s6 d6 x6 => ?_
      have r4' := Rep.stay x6.stay _ _ _ _ _ r4 (fun _ m => absurd m List.not_mem_nil) d4'.off2
      refine ⟨w.1, z4, w2.1, z6, r, r4', r6, e7, ?_⟩
      have x5'' : Ext q H fp fz H4 ([] ++ f5) ([] ++ z5) := x5'.to (fun _ m => m) fun a m => .inr (List.mem_append_right _ m)
      have x7 := Ext.trans x5'' x6
      exact p H6 f7 z7 s6 ⟨d6.1, fun a m m' => d6.2 a m (List.mem_append_right _ m')⟩ (x7.to (fun _ m => m) fun a m => .inr (List.mem_append_right _ (List.mem_append_right _ m)))
theorem chain3_pe (ok : XOk X tb cf c) {o o' o2 : CmpOp} {a b d g : Ex} {xa xb xd xg : Expr} {pos : Pos} (ia : PE X xa (tI X.K cf a)) (ib : PE X xb (tI X.K cf b)) (id : PE X xd (tI X.K cf d)) (ig : PE X xg (tI X.K cf g)) (hm : lastMarks [o, o', o2] [xb, xd, xg] = false) :
    PE X (.Compare xa [o, o', o2] [xb, xd, xg] pos) (tI X.K cf (.chain3 o o' o2 a b d g)) := by
  refine pe_imp (pe_chain3 (cmp_ok (hu65 ok) o) (cmp_ok (hu65 ok) o') (cmp_ok (hu65 ok) o2) ia ib id ig hm) fun σ H Q ⟨ρ, fp, fz, w, ρ', s, dj, e, p⟩ => ?_
  simp only [ev] at e
  obtain ⟨r, ρ7, e, e'⟩ := bind_inv e
  cases e'
  refine chain3_in ok s dj e (fun h => and_iff4 (by simpa only [quiet] using h)) fun H' f2 z2 s2 d2 x2 => ?_
  exact p _ H' [] [] f2 z2 (by simp [Rep]) s2 d2 x2 (fun _ _ m => absurd m List.not_mem_nil)
theorem tchain3_pt (ok : XOk X tb cf c) {o o' o2 : CmpOp} {a b d g : Ex} {xa xb xd xg : Expr} {pos : Pos} (ia : PE X xa (tI X.K cf a)) (ib : PE X xb (tI X.K cf b)) (id : PE X xd (tI X.K cf d)) (ig : PE X xg (tI X.K cf g)) (hm : lastMarks [o, o', o2] [xb, xd, xg] = false) :
    PT X (.Compare xa [o, o', o2] [xb, xd, xg] pos) (tIT X.K cf (.tchain3 o o' o2 a b d g)) := by
  refine pt_imp (pt_chain3 (cmp_ok (hu65 ok) o) (cmp_ok (hu65 ok) o') (cmp_ok (hu65 ok) o2) ia ib id ig hm) fun σ H Q ⟨ρ, fp, fz, r, ρ', s, dj, e, p⟩ => ?_
  simp only [evT] at e
  exact chain3_in ok s dj e (fun h => and_iff4 (by simpa only [quiet] using h)) fun H' f2 z2 s2 d2 x2 => ⟨r, rfl, p H' f2 z2 s2 d2 x2⟩
end
end Pi
/-! Pi9: arguments, displays, calls. -/
namespace Pi
open PySem L2

section
variable {X : Cx} {tb : Tb} {cf : Cf} {c : CkC}
/-- positional arguments, then keywords -/
structure PAK (X : Cx) (xs : List Expr) (kws : List Keyword) (t : TA) : Prop where
  run : ∀ (pos : Pos) (pins : List (Addr × Obj)) (s : Shared) (σ : St) (H : Hp) (Q : List V → Hp → Prop), Inv X pins σ H s → t σ H Q →
    wpAny (model X.prog X.w) X.A (spliced (backTo pos (starEach xs X.env))) (fun us s1 => wpAny (model X.prog X.w) X.A (evalAll ((backToKw pos (keywordEach kws X.env)).map (·.2)))
      (fun ws s2 => us.length = xs.length ∧ ws.length = kws.length ∧ AP X pins σ Q (us ++ ws) s2) X.xe s1) X.xe s
theorem pak_nil : PAK X [] [] tNil := ⟨fun pos pins s σ H Q I h => Calls.spliced_nil (wpAny_evalAll_nil ⟨rfl, rfl, [], H, I, .nil, h⟩)⟩
theorem pak_kw {e : Expr} {te : TE} {nm : Option Str} {kpos : Pos} {kws : List Keyword} {t : TA} (he : PE X e te) (hr : PAK X [] kws t) : PAK X [] (⟨nm, e, kpos⟩ :: kws) (tCons te t) := by
  refine ⟨fun pos pins s σ H Q I h => Calls.spliced_nil ?_⟩
  refine wpAny_evalAll_cons (wpAny_bind (thn (he.run pins s σ H _ I h) fun u s1 ⟨x, H1, I1, r1, q1⟩ => wpAny_bind (wpAny_standAt (wpAny_pure ?_))))
  have h2 := hr.run pos pins s1 σ H1 _ I1 q1
  have h3 : wpAny (model X.prog X.w) X.A (evalAll ((backToKw pos (keywordEach kws X.env)).map (·.2))) (fun ws s2 => ([] : List Value).length = 0 ∧ ws.length = kws.length ∧ AP X pins σ (fun xs H2 => Q (x :: xs) H2) ([] ++ ws) s2) X.xe s1 := by
    have h2' : wpAny (model X.prog X.w) X.A (pure ([] : List Value)) (fun us s1 => wpAny (model X.prog X.w) X.A (evalAll ((backToKw pos (keywordEach kws X.env)).map (·.2)))
      (fun ws s2 => us.length = 0 ∧ ws.length = kws.length ∧ AP X pins σ (fun xs H2 => Q (x :: xs) H2) (us ++ ws) s2) X.xe s1) X.xe s1 := h2
    exact fun Γ p hΓ => h2' Γ p hΓ Γ p hΓ
  refine thn h3 fun ws s2 ⟨_, hl, xs, H2, I2, r2, q2⟩ => ⟨rfl, by simpa using hl, x :: xs, H2, I2, .cons r1 r2, q2⟩
theorem pak_cons {e : Expr} {te : TE} {xs : List Expr} {kws : List Keyword} {t : TA} (he : PE X e te) (hr : PAK X xs kws t) (hs : starEach (e :: xs) X.env = (false, eval e X.env) :: starEach xs X.env) : PAK X (e :: xs) kws (tCons te t) := by
  refine ⟨fun pos pins s σ H Q I h => ?_⟩
  rw [hs]
  show wpAny _ _ (spliced ((false, eval e X.env) :: backTo pos (starEach xs X.env))) _ _ s
  refine Calls.spliced_cons (thn (he.run pins s σ H _ I h) fun u s1 ⟨x, H1, I1, r1, q1⟩ => ?_)
  refine thn (hr.run pos pins s1 σ H1 _ I1 q1) fun us s2 h2 => thn h2 fun ws s3 ⟨l1, l2, ys, H3, I3, r3, q3⟩ => ⟨by simp [l1], l2, x :: ys, H3, I3, .cons r1 r3, q3⟩
theorem PAK.pa {xs : List Expr} {t : TA} (h : PAK X xs [] t) : PA X xs t := by
  refine ⟨fun pos pins s σ H Q I q Γ p hΓ => Sem.wp_mono _ Γ _ (fun us p' s1 h1 => ?_) (fun _ _ _ h => h) p s (h.run pos pins s σ H Q I q Γ p hΓ)⟩
  have h3 : wpAny (model X.prog X.w) X.A (pure ([] : List Value)) (fun ws s2 => us.length = xs.length ∧ ws.length = 0 ∧ AP X pins σ Q (us ++ ws) s2) X.xe s1 := h1
  have h5 : AP X pins σ Q (us ++ []) s1 := (h3 Γ p' hΓ).2.2
  rwa [List.append_nil] at h5
theorem pak_imp {xs : List Expr} {kws : List Keyword} {t t' : TA} (h : PAK X xs kws t) (i : ∀ σ H Q, t' σ H Q → t σ H Q) : PAK X xs kws t' := ⟨fun pos pins s σ H Q I q => h.run pos pins s σ H Q I (i σ H Q q)⟩
/-! ### the evaluator's arguments -/
theorem nil_tA : ∀ σ H Q, tIA X.K cf .nil σ H Q → tNil σ H Q := fun σ H Q ⟨ρ, fp, fz, as, ρ', s, dj, e, p⟩ => by
  simp only [evA] at e
  cases e
  exact p [] H [] [] fp fz ⟨rfl, rfl, rfl⟩ s dj (.refl _ _ _ _) (fun _ _ m => absurd m List.not_mem_nil)
theorem evA_cons {a r : Ex} (h : ∀ i, a ≠ .lend i) (ρ : Env) : evA cf (.cons a r) ρ = (ev cf a ρ).bind fun x ρ1 => (evA cf r ρ1).bind fun xs ρ2 => .ok (.val x :: xs) ρ2 := by
  cases a <;> first | rfl | exact absurd rfl (h _)
theorem cons_tA {a r : Ex} (h : ∀ i, a ≠ .lend i) : ∀ σ H Q, tIA X.K cf (.cons a r) σ H Q → tCons (tI X.K cf a) (tIA X.K cf r) σ H Q := fun σ H Q ⟨ρ, fp, fz, as, ρ', s, dj, e, p⟩ => by
  rw [evA_cons h] at e
  obtain ⟨x, ρ1, e1, ea⟩ := bind_inv e
  obtain ⟨xs, ρ2, e2, eb⟩ := bind_inv ea
  cases eb
  have hq : quiet (.cons a r) = true → quiet a = true ∧ quiet r = true := fun h => and_iff2 (by simpa only [quiet] using h)
  refine ⟨ρ, fp, fz, x, ρ1, s, dj, e1, fun v H1 f1 z1 f2 z2 r1 s1 d1 x1 n1 => ?_⟩
  have t1 := r1.trk
  refine ⟨ρ1, f2, z2, xs, ρ', s1, d1.right, e2, fun vs H2 f3 z3 f4 z4 al s2 d2 x2 n2 => ?_⟩
  have x1' : Ext (quiet (.cons a r)) H fp fz H1 (f1 ++ f2) (z1 ++ z2) := x1.weak fun h => (hq h).1
  have x2' : Ext (quiet (.cons a r)) H1 f2 z2 H2 (f3 ++ f4) (z3 ++ z4) := x2.weak fun h => (hq h).2
  have r1' := Rep.stay x2'.stay _ _ _ _ _ r1 d1.off1 d1.off2
  have dd := Ext.disj d1 t1.1 t1.2 x2' d2
  have xx := Ext.trans x1' x2'
  refine p (v :: vs) H2 (f1 ++ f3) (z1 ++ z3) f4 z4 ⟨v, vs, f1, f3, z1, z3, rfl, rfl, rfl, r1', al⟩ s2 ?_ ?_ ?_
  · rw [List.append_assoc, List.append_assoc]; exact dd
  · rw [List.append_assoc, List.append_assoc]; exact xx
  · intro hb a m
    rcases List.mem_append.mp m with m | m
    · exact n1 (hq hb).1 a m
    · have := n2 (hq hb).2 a m
      rw [hb] at x1'
      exact x1'.none this
theorem lend_tA {i : Nat} {r : Ex} : ∀ σ H Q, tIA X.K cf (.cons (.lend i) r) σ H Q → tCons (tVar i) (tIA X.K cf r) σ H Q := fun σ H Q ⟨ρ, fp, fz, as, ρ', s, dj, e, p⟩ => by
  simp only [evA] at e
  split at e
  · rename_i hg
    obtain ⟨xs, ρ2, e2, eb⟩ := bind_inv e
    cases eb
    obtain ⟨⟨d, n⟩, g⟩ := Option.isSome_iff_exists.mp hg
    obtain ⟨v, _, _, _, _, hv, _⟩ := SL.take s g
    refine ⟨v, hv, ρ, fp, fz, xs, ρ', s, dj, e2, fun vs H2 f3 z3 f4 z4 al s2 d2 x2 n2 => ?_⟩
    exact p (v :: vs) H2 f3 z3 f4 z4 ⟨v, vs, rfl, hv, al⟩ s2 d2 (x2.weak fun h => by simp [quiet] at h) (fun h => by simp [quiet] at h)
  · cases e
theorem ck_star (tb : Tb) (c : CkC) (a : Ex) (y : Expr) (p : Pos) : ck tb c a (.Starred y p) = false := by
  induction a
  case q e ih =>
    show (ck tb c e (.Starred y p) && quiet e) = false
    rw [ih]; rfl
  case mth m o l _ _ => cases m <;> rfl
  all_goals rfl
theorem ck_nostar {a : Ex} {x : Expr} (h : ck tb c a x = true) (es : List Expr) (env : PySem.Env) : starEach (x :: es) env = (false, eval x env) :: starEach es env := by
  cases x with
  | Starred y p => rw [ck_star] at h; cases h
  | _ => rfl
/-- values alone -/
theorem vals_al {σ : St} : ∀ {as : List Ar} {xs : List Sl} {vs : List V} {H : Hp} {f z : List Addr}, valsA as = some xs → AL X.K H σ as vs f z → SL X.K H (vs.map some) (xs.map some) f z
  | [], xs, vs, H, f, z, h, al => by
    simp only [valsA, Option.some.injEq] at h
    subst h
    obtain ⟨rfl, rfl, rfl⟩ := al
    exact ⟨rfl, rfl⟩
  | .val s :: as, xs, vs, H, f, z, h, al => by
    simp only [valsA, Option.map_eq_some_iff] at h
    obtain ⟨ys, h, rfl⟩ := h
    obtain ⟨v, vs', f1, f2, z1, z2, rfl, rfl, rfl, r, al⟩ := al
    exact ⟨v, f1, f2, z1, z2, rfl, rfl, rfl, r, vals_al h al⟩
  | .ln i :: as, xs, vs, H, f, z, h, al => by simp [valsA] at h
theorem sl_repL {H : Hp} : ∀ {xs : List Sl} {vs : List V} {f z : List Addr} (k : Nat), SL X.K H (vs.map some) (xs.map some) f z → xs.all (hasd k) = true → ∃ f' z', RepL X.K H (demL xs) k vs f' z' ∧ Less f z f' z'
  | [], [], f, z, k, s, _ => by
    obtain ⟨rfl, rfl⟩ := s
    exact ⟨[], [], by simp [RepL, demL], .refl _ _⟩
  | x :: xs, v :: vs, f, z, k, s, h => by
    obtain ⟨w, f1, f2, z1, z2, e, rfl, rfl, r, s⟩ := s
    cases e
    simp only [List.all_cons, Bool.and_eq_true] at h
    obtain ⟨f1', z1', r', l1⟩ := Rep.hasd h.1 r
    obtain ⟨f2', z2', rl, l2⟩ := sl_repL k s h.2
    refine ⟨f1' ++ f2', z1' ++ z2', ?_, l1.app l2⟩
    simp only [demL, List.map_cons, RepL]
    exact ⟨v, vs, f1', f2', z1', z2', rfl, rfl, rfl, r', rl⟩
  | [], _ :: _, _, _, _, s, _ => False.elim s
  | _ :: _, [], _, _, _, s, _ => False.elim s
theorem hasd_zero (s : Sl) : hasd 0 s = true := by simp [hasd]
theorem sl_rep0 {H : Hp} {xs : List Sl} {vs : List V} {f z : List Addr} (s : SL X.K H (vs.map some) (xs.map some) f z) : ∃ z', RepL X.K H (demL xs) 0 vs [] z' ∧ Less f z [] z' := by
  obtain ⟨f', z', r, l⟩ := sl_repL 0 s (by simp [hasd_zero])
  have := RepL.zero _ _ _ _ r
  subst this
  exact ⟨z', r, l⟩
/-- arguments, all frozen -/
theorem stepA {σ : St} {H : Hp} {ρ ρ1 : Env} {fp fz : List Addr} {q : Bool} {l : Ex} {as : List Ar} {xs : List Sl} {R : List V → Hp → Prop} (s : SL X.K H σ ρ fp fz) (d : Disj fp fz) (e : evA cf l ρ = .ok as ρ1) (hv : valsA as = some xs) (hq : q = true → quiet l = true)
    (k : ∀ vs H1 z1 f2 z2, RepL X.K H1 (demL xs) 0 vs [] z1 → SL X.K H1 σ ρ1 f2 z2 → Disj f2 (z1 ++ z2) → Ext q H fp fz H1 f2 (z1 ++ z2) → R vs H1) : tIA X.K cf l σ H R := by
  refine ⟨ρ, fp, fz, as, ρ1, s, d, e, fun vs H' f1 z1 f2 z2 al s' d' e' _ => ?_⟩
  obtain ⟨z1', r', l⟩ := sl_rep0 (vals_al hv al)
  have l2 := l.app (Less.refl f2 z2)
  exact k vs H' z1' f2 z2 r' s' (l2.disj d') ((e'.weak hq).less l2)
/-! ### displays -/
theorem post_new {q : Bool} {σ : St} {H H1 : Hp} {fp fz : List Addr} {ρ1 : Env} {d : Sl} {Q : VK} {f1 z1 f2 z2 : List Addr} {p : Addr} {o : HO} {f1' z1' : List Addr} (s : SL X.K H1 σ ρ1 f2 z2) (dj : Disj (f1 ++ f2) (z1 ++ z2)) (x : Ext q H fp fz H1 (f1 ++ f2) (z1 ++ z2)) (n : q = true → New H f1) (t : Trk H1 f1 ∧ Trk H1 z1)
    (hp : H1 p = none) (r : Rep X.K (upd H1 p o) d.1 d.2 (.ref p) f1' z1') (hf : f1'.Nodup ∧ ∀ a ∈ f1', a = p ∨ a ∈ f1) (hz : ∀ a ∈ z1', a ∈ z1) (qq : PostE q X.K σ H fp fz d ρ1 Q) : Q (.ref p) (upd H1 p o) := by
  have ts := s.trk
  have st := Stay.new (o := o) hp
  refine qq (.ref p) _ f1' z1' f2 z2 r (SL.stay st s (by simp) (by simp)) ⟨List.nodup_append.mpr ⟨hf.1, dj.right.1, fun a m b m' => ?_⟩, fun a m m' => ?_⟩ ⟨fun a o h n => st a o (x.stay a o h n) (by simp), fun a m => ?_, fun a m => ?_⟩ ?_
  · rintro rfl
    rcases hf.2 a m with h | h
    · subst h; exact ts.1 a m' hp
    · exact dj.off1 (b := false) a h m'
  · rcases List.mem_append.mp m with m | m
    · rcases hf.2 a m with h | h
      · subst h
        rcases List.mem_append.mp m' with m' | m'
        · exact t.2 a (hz a m') hp
        · exact ts.2 a m' hp
      · exact dj.2 a (List.mem_append_left _ h) ((List.mem_append.mp m').elim (fun m => List.mem_append_left _ (hz a m)) (List.mem_append_right _))
    · exact dj.2 a (List.mem_append_right _ m) ((List.mem_append.mp m').elim (fun m => List.mem_append_left _ (hz a m)) (List.mem_append_right _))
  · rcases List.mem_append.mp m with m | m
    · rcases hf.2 a m with h | h
      · subst h; exact (x.some hp).symm
      · exact x.fpx a (List.mem_append_left _ h)
    · exact x.fpx a (List.mem_append_right _ m)
  · exact x.fzx a ((List.mem_append.mp m).elim (fun m => List.mem_append_left _ (hz a m)) (List.mem_append_right _))
  · rintro rfl a m
    rcases hf.2 a m with h | h
    · subst h; exact x.none hp
    · exact n rfl a h
theorem less_new {f1 z1 f1' z1' f2 z2 : List Addr} {q : Bool} {H H1 : Hp} {fp fz : List Addr} (l : Less f1 z1 f1' z1') (dj : Disj (f1 ++ f2) (z1 ++ z2)) (x : Ext q H fp fz H1 (f1 ++ f2) (z1 ++ z2)) (n : q = true → New H f1) :
    Disj (f1' ++ f2) (z1' ++ z2) ∧ Ext q H fp fz H1 (f1' ++ f2) (z1' ++ z2) ∧ (q = true → New H f1') := by
  have l2 := l.app (Less.refl f2 z2)
  exact ⟨l2.disj dj, x.less l2, fun h a m => n h a (l.fp a m)⟩
theorem tup_pe {k : Nat} {l : Ex} {xs : List Expr} {j : Nat} {pos : Pos} (il : PA X xs (tIA X.K cf l)) : PE X (.Tuple xs j pos) (tI X.K cf (.tup k l)) := by
  refine pe_imp (pe_tup il) fun σ H Q ⟨ρ, fp, fz, w, ρ', s, dj, e, p⟩ => ?_
  simp only [ev] at e
  obtain ⟨ys, ρ1, e1, ea⟩ := bind_inv e
  obtain ⟨as, ρ0, e0, eb⟩ := bind_inv e1
  obtain ⟨hv, rfl⟩ := of_inv eb
  clear e e1
  split at ea
  · rename_i hc
    cases ea
    simp only [Bool.and_eq_true, decide_eq_true_eq] at hc
    refine ⟨ρ, fp, fz, as, ρ', s, dj, e0, fun vs H1 f1 z1 f2 z2 al s2 d2 x2 n2 => ?_⟩
    obtain ⟨f1', z1', rl, ls⟩ := sl_repL k (vals_al hv al) hc.1
    obtain ⟨d3, x3, n3⟩ := less_new ls d2 (x2.weak (b' := quiet (.tup k l)) fun h => by simpa only [quiet] using h) (fun h => n2 (by simpa only [quiet] using h))
    have hl := RepL.len rl
    refine ⟨by rw [hl]; simpa [demL] using hc.2, fun a ha => ?_⟩
    have own := RepL.own _ _ _ _ _ rl
    refine post_new s2 d3 x3 n3 ⟨fun a m h => ?_, fun a m h => ?_⟩ ha (f1' := f1') (z1' := z1') ?_ ⟨(List.nodup_append.mp d3.1).1, fun a m => .inr m⟩ (fun a m => m) p
    · obtain ⟨o, h', _⟩ := own.1 a m; rw [h] at h'; cases h'
    · obtain ⟨o, h'⟩ := own.2 a m; rw [h] at h'; cases h'
    · simp only [Rep]
      exact ⟨a, vs, rfl, upd_same, RepL.stay (.new ha) _ _ _ _ _ rl (by simp) (by simp)⟩
  · cases ea
theorem lst_pe {k : Nat} {l : Ex} {xs : List Expr} {pos : Pos} (il : PA X xs (tIA X.K cf l)) : PE X (.List xs pos) (tI X.K cf (.lst k l)) := by
  refine pe_imp (pe_lst il) fun σ H Q ⟨ρ, fp, fz, w, ρ', s, dj, e, p⟩ => ?_
  simp only [ev] at e
  obtain ⟨ys, ρ1, e1, ea⟩ := bind_inv e
  obtain ⟨as, ρ0, e0, eb⟩ := bind_inv e1
  obtain ⟨hv, rfl⟩ := of_inv eb
  clear e e1
  split at ea
  · rename_i hc
    cases ea
    simp only [Bool.and_eq_true, decide_eq_true_eq] at hc
    refine ⟨ρ, fp, fz, as, ρ', s, dj, e0, fun vs H1 f1 z1 f2 z2 al s2 d2 x2 n2 => ?_⟩
    obtain ⟨f1', z1', rl, ls⟩ := sl_repL k (vals_al hv al) hc.1
    obtain ⟨d3, x3, n3⟩ := less_new ls d2 (x2.weak (b' := quiet (.lst k l)) fun h => by simpa only [quiet] using h) (fun h => n2 (by simpa only [quiet] using h))
    have hl := RepL.len rl
    refine ⟨by rw [hl]; simpa [demL] using hc.2, fun a ha => ?_⟩
    have own := RepL.own _ _ _ _ _ rl
    have t1 : Trk H1 f1' := fun a m h => by
      obtain ⟨o, h', _⟩ := own.1 a m; rw [h] at h'; cases h'
    refine post_new s2 d3 x3 n3 ⟨t1, fun a m h => ?_⟩ ha (f1' := a :: f1') (z1' := z1') ?_ ⟨List.nodup_cons.mpr ⟨fun m => t1 a m ha, (List.nodup_append.mp d3.1).1⟩, fun b m => by simpa using m⟩ (fun a m => m) p
    · obtain ⟨o, h'⟩ := own.2 a m; rw [h] at h'; cases h'
    · simp only [Rep]
      exact ⟨a, vs, f1', z1', rfl, RepL.stay (.new ha) _ _ _ _ _ rl (by simp) (by simp), .inr ⟨by simp, upd_same, rfl, rfl⟩⟩
  · cases ea
end
end Pi
/-! Pi10: places, slices, calls of built-ins and of defs. -/
namespace Pi
open PySem L2

section
variable {X : Cx} {tb : Tb} {cf : Cf} {c : CkC}
/-! ### a[b] -/
theorem atI_rep {H : Hp} {l : List D} {vs : List V} {z : List Addr} (r : RepL X.K H l 0 vs [] z) {i : Int} {d : D} (h : atI l i = some d) : ∃ v z', atI vs i = some v ∧ Rep X.K H d 0 v [] z' ∧ ∀ a ∈ z', a ∈ z := by
  unfold atI at h ⊢
  rw [RepL.len r]
  cases e : ixN l.length i with
  | none => rw [e] at h; cases h
  | some j =>
    rw [e] at h
    obtain ⟨v, z', a, b, c⟩ := RepL.at0 r j d h
    exact ⟨v, z', a, b, c⟩
def rIX (K : PySem.W.Frag) : R2 := fun x y H Q => ∃ d1 z1 d2 z2 d, Rep K H d1 0 x [] z1 ∧ Rep K H d2 0 y [] z2 ∧ ixD d1 d2 = some d ∧ ∀ v z, Rep K H d 0 v [] z → (∀ a ∈ z, a ∈ z1) → Q v H
theorem ix_dict (hu : X.A.units + 1 < cLine) : IxR X (fun x y H Q => ∃ a v, x = .ref a ∧ DGet H a y (some v) ∧ Q v H) := by
  intro value slice pins s σ H x y v u Q I rx ry ⟨a, w, e, g, q⟩ hs
  subst e
  obtain rfl : v = .ref a := rx
  exact PyProof.Rows.tail_any (dict_typeIs I g) PySem.F.slot_dict_getitem.lookup (d_getItem hu I g ry fun w' s3 I3 rw' => ⟨w, H, I3, rw', q⟩) hs
theorem ixr_ok (hu : X.A.units + 1 < cLine) : IxR X (rIX X.K) := by
  intro value slice pins s σ H x y v u Q I rx ry ⟨d1, z1, d2, z2, d, r1, r2, e, q⟩ hs
  unfold ixD at e
  split at e
  · cases r2.toInt
    obtain ⟨a, vs, z', rfl, h, rl, rfl⟩ := r1.toLst
    obtain ⟨w, z, ha, hr, hz⟩ := atI_rep rl e
    exact ix_list value slice pins s σ H _ _ v u Q I rx ry ⟨a, vs, _, w, rfl, rfl, SqL.of h, ha, q w z hr fun a m => List.mem_cons_of_mem _ (hz a m)⟩ hs
  · cases r2.toInt
    obtain ⟨a, vs, rfl, h, rl⟩ := r1.toTup
    obtain ⟨w, z, ha, hr, hz⟩ := atI_rep rl e
    exact ix_tup value slice pins s σ H _ _ v u Q I rx ry ⟨a, vs, _, w, rfl, rfl, SqT.of h, ha, q w z hr hz⟩ hs
  · cases r2.toInt
    obtain ⟨a, vs, rfl, h, rl⟩ := r1.toCtup
    obtain ⟨w, z, ha, hr, hz⟩ := atI_rep rl e
    exact ix_tup value slice pins s σ H _ _ v u Q I rx ry ⟨a, vs, _, w, rfl, rfl, h, ha, q w z hr hz⟩ hs
  · split at e
    · rename_i hl
      simp only [Option.map_eq_some_iff] at e
      obtain ⟨k, e, rfl⟩ := e
      cases r2.toInt
      cases r1.toStr
      exact ix_str value slice pins s σ H _ _ v u Q I rx ry ⟨_, _, k, rfl, rfl, hl, e, q _ [] (by simp [Rep]) (fun _ m => absurd m List.not_mem_nil)⟩ hs
    · cases e
  · split at e
    · rename_i k hk
      obtain ⟨a, kvs, z', rfl, h, rk, rfl⟩ := r1.toDk
      obtain ⟨w, z, ha, hr, hz⟩ := RepK.at0 rk k d e
      exact ix_dict hu value slice pins s σ H _ _ v u Q I rx ry ⟨a, w, rfl, .inl ⟨kvs, k, h, key_rep r2 hk, ha.symm⟩, q w z hr fun a m => List.mem_cons_of_mem _ (hz a m)⟩ hs
    · cases e
  · split at e
    · rename_i k hk
      obtain ⟨a, kvs, z', rfl, h, rk, rfl⟩ := r1.toDt
      obtain ⟨b, vs, rfl, hb, rl⟩ := r2.toTup
      obtain ⟨w, z, ha, hr, hz⟩ := RepT.at0 rk k d e
      exact ix_dict hu value slice pins s σ H _ _ v u Q I rx ry ⟨a, w, rfl, .inr ⟨kvs, k, b, h, rfl, by rw [hb, keys_rep rl hk], ha.symm⟩, q w z hr fun a m => List.mem_cons_of_mem _ (hz a m)⟩ hs
    · cases e
  · cases e
theorem ix_pe (ok : XOk X tb cf c) {a b : Ex} {xa xb : Expr} {pos : Pos} (ia : PE X xa (tI X.K cf a)) (ib : PE X xb (tI X.K cf b)) (hs : notSl xb = true) : PE X (.Subscript xa xb pos) (tI X.K cf (.ix a b)) := by
  refine pe_imp (pe_ix (ixr_ok (by have := ok.hu; omega)) ia ib (notSl_ok hs)) fun σ H Q ⟨ρ, fp, fz, d, ρ', s, dj, e, p⟩ => ?_
  simp only [ev] at e
  obtain ⟨x, ρ1, e1, ea⟩ := bind_inv e
  obtain ⟨y, ρ2, e2, eb⟩ := bind_inv ea
  obtain ⟨w, ρ3, e3', ec⟩ := bind_inv eb
  clear e ea eb
  obtain ⟨e3, rfl⟩ := of_inv e3'
  cases ec
  refine step2 (q := quiet (.ix a b)) s dj e1 e2 (fun h => and_iff2 (by simpa only [quiet] using h)) fun v u H2 z1 z2 f3 z3 r1 r2 s3 d3 x3 => ?_
  exact ⟨x.1, z1, y.1, z2, w, r1, r2, e3, fun v z hr hz => post_old s3 d3 x3 hr (fun a m => List.mem_append_left _ (hz a m)) p⟩
/-! ### a.f -/
theorem FlatV.rep {K : PySem.W.Frag} {H : Hp} {d : D} {v : V} (h : FlatV d v) (n : Nat) : Rep K H d n v [] [] := by
  cases d <;> first | (simp only [FlatV] at h; subst h; simp [Rep]; done) | exact h.elim
theorem fld_pe {a : Ex} {f : Str} {xa : Expr} {pos : Pos} (ia : PE X xa (tI X.K cf a)) (hnc : ∀ f a k p, xa ≠ .Call f a k p) : PE X (.Attribute xa f pos) (tI X.K cf (.fld a f)) := by
  refine pe_imp (pe_fld ia (attr_base hnc)) fun σ H Q ⟨ρ, fp, fz, d, ρ', s, dj, e, p⟩ => ?_
  simp only [ev] at e
  obtain ⟨⟨x, n⟩, ρ1, e1, e2⟩ := bind_inv e
  clear e
  cases x <;> simp only [reduceCtorEq] at e2
  rename_i c fs
  obtain ⟨w, ρ2, e3, e4⟩ := bind_inv e2
  obtain ⟨e5, h0⟩ := of_inv e3
  subst h0
  cases e4
  refine step1 (q := quiet (.fld a f)) s dj e1 (fun h => by simpa only [quiet] using h) fun v H1 z1 f2 z2 r s2 d2 x2 => ?_
  simp only [Rep] at r
  obtain ⟨b, C, dx, vs, e, _, e6, q, i⟩ := r
  obtain ⟨na, u, hl, hu⟩ := i.fld f w e5
  exact ⟨b, C, dx, vs, u, e, q, i.cls, na, hl, post_old (z1 := z1) (z := []) s2 d2 x2 (hu.rep 0) (fun _ m => absurd m List.not_mem_nil) p⟩
/-! ### slices -/
theorem cut_rep {H : Hp} {l : List D} {vs : List V} {z : List Addr} (r : RepL X.K H l 0 vs [] z) (lo hi : Option Int) : ∃ z', RepL X.K H (cutD l lo hi) 0 (cutV vs lo hi) [] z' ∧ ∀ a ∈ z', a ∈ z := by
  unfold cutD cutV
  rw [RepL.len r]
  obtain ⟨z1, r1, s1⟩ := RepL.drop r (HT.sIx l.length 0 lo)
  obtain ⟨z2, r2, s2⟩ := RepL.takeN r1 (HT.sIx l.length l.length hi - HT.sIx l.length 0 lo)
  exact ⟨z2, r2, fun a m => s1 a (s2 a m)⟩
def rSL (K : PySem.W.Frag) : V → Option Int → Option Int → Hp → VK → Prop := fun x lo hi H Q => ∃ d1 z1 d, Rep K H d1 0 x [] z1 ∧ slD d1 lo hi = some d ∧ PQ K H z1 d Q
theorem slr_ok : SlR X (rSL X.K) := by
  intro pins s σ H x v vl vu lo hi sl Q I rx hsl pl pu ⟨d1, z1, d, r1, e, q⟩
  cases d1 with
  | lst l =>
    simp only [slD, Option.some.injEq] at e
    subst e
    obtain ⟨a, vs, z', rfl, h, rl, rfl⟩ := r1.toLst
    obtain ⟨z2, r2, s2⟩ := cut_rep rl lo hi
    exact sl_list pins s σ H _ v vl vu lo hi sl Q I rx hsl pl pu ⟨a, vs, rfl, SqL.of h, fun p hp => q.lst r2 (fun a m => List.mem_cons_of_mem _ (s2 a m)) p hp⟩
  | scr l =>
    simp only [slD, Option.some.injEq] at e
    subst e
    simp only [Rep] at r1
    obtain ⟨a, rfl, _, h⟩ := r1
    obtain ⟨z2, r2, s2⟩ := cut_rep (RepL.ints (K := X.K) (H := H) l) lo hi
    exact sl_list pins s σ H _ v vl vu lo hi sl Q I rx hsl pl pu ⟨a, _, rfl, h.elim (fun h => .inl h.1) (fun h => .inr h.1), fun p hp => q.lst r2 (fun a m => absurd (s2 a m) List.not_mem_nil) p hp⟩
  | tup l =>
    simp only [slD, Option.some.injEq] at e
    subst e
    have r0 := r1
    obtain ⟨a, vs, rfl, h, rl⟩ := r1.toTup
    obtain ⟨z2, r2, s2⟩ := cut_rep rl lo hi
    refine sl_tupA pins s σ H _ v vl vu lo hi sl Q I rx hsl pl pu ⟨a, vs, rfl, SqT.of h, fun hw => ?_, fun hw p hp => q.tup r2 s2 p hp⟩
    rw [RepL.len rl] at hw
    have hc : cutD l lo hi = l := by
      unfold cutD
      rw [hw.1, hw.2]
      simp
    rw [hc] at q
    exact q.same rfl r0 fun a m => m
  | _ => simp [slD] at e
/-- a slice's part -/
theorem po_nil : PO X none (tIO X.K cf .nil) := by
  refine ⟨fun pins s σ H Q I ⟨ρ, fp, fz, b, ρ', s', dj, e, p⟩ => ?_⟩
  simp only [evO] at e
  cases e
  exact po_none.run pins s σ H Q I (p H fp fz s' dj (.refl _ _ _ _))
theorem po_ival {a : Ex} {xa : Expr} (ia : PE X xa (tI X.K cf a)) : PO X (some xa) (tIO X.K cf (.ival a)) := by
  refine ⟨fun pins s σ H Q I ⟨ρ, fp, fz, b, ρ', s', dj, e, p⟩ => (po_some ia).run pins s σ H Q I ?_⟩
  simp only [evO] at e
  obtain ⟨⟨x, n⟩, ρ1, e1, ea⟩ := bind_inv e
  clear e
  cases x <;> simp only [reduceCtorEq] at ea
  cases ea
  refine step1 (q := quiet (.ival a)) s' dj e1 (fun h => by simpa only [quiet] using h) fun v H1 z1 f2 z2 r s2 d2 x2 => ?_
  cases r.toInt
  exact ⟨_, rfl, p H1 f2 z2 s2 ⟨d2.1, fun a m m' => d2.2 a m (List.mem_append_right _ m')⟩ (x2.to (fun _ m => m) fun a m => .inr (List.mem_append_right _ m))⟩
theorem sl_pe {a lo hi : Ex} {xa : Expr} {xl xh : Option Expr} {pos p2 : Pos} (ia : PE X xa (tI X.K cf a)) (il : PO X xl (tIO X.K cf lo)) (ih : PO X xh (tIO X.K cf hi)) : PE X (.Subscript xa (.Slice xl xh none p2) pos) (tI X.K cf (.sl a lo hi)) := by
  refine pe_imp (pe_slice slr_ok ia il ih) fun σ H Q ⟨ρ, fp, fz, d, ρ', s, dj, e, p⟩ => ?_
  simp only [ev] at e
  obtain ⟨x, ρ1, e1, ea⟩ := bind_inv e
  obtain ⟨l, ρ2, e2, eb⟩ := bind_inv ea
  obtain ⟨h, ρ3, e3, ec⟩ := bind_inv eb
  obtain ⟨w, ρ4, e4', ed⟩ := bind_inv ec
  clear e ea eb ec
  obtain ⟨e4, rfl⟩ := of_inv e4'
  cases ed
  have hq : quiet (.sl a lo hi) = true → quiet a = true ∧ quiet lo = true ∧ quiet hi = true := fun h => and_iff3 (by simpa only [quiet] using h)
  refine step1 (q := quiet (.sl a lo hi)) s dj e1 (fun h => (hq h).1) fun v H1 z1 f2 z2 r1 s2 d2 x2 => ?_
  have t1 := r1.trk
  have d2' : Disj ([] ++ f2) (z1 ++ z2) := d2
  have x2' : Ext (quiet (.sl a lo hi)) H fp fz H1 ([] ++ f2) (z1 ++ z2) := x2
  refine ⟨ρ1, f2, z2, l, ρ2, s2, d2'.right, e2, fun H2 f3 z3 s3 d3 x3 => ?_⟩
  refine ⟨ρ2, f3, z3, h, ρ', s3, d3, e3, fun H3 f4 z4 s4 d4 x4 => ?_⟩
  have x5 := Ext.trans0 (x3.weak fun h => (hq h).2.1) (x4.weak fun h => (hq h).2.2)
  have r1' := Rep.stay x5.stay _ _ _ _ _ r1 (fun _ m => absurd m List.not_mem_nil) d2'.off2
  exact ⟨x.1, z1, w, r1', e4, pq_post s4 (Ext.disj d2' (Trk.nil _) t1.2 x5 d4) (Ext.trans x2' x5) p⟩
theorem rev_pe {a : Ex} {xa : Expr} {st : Expr} {p2 pos : Pos} (ia : PE X xa (tI X.K cf a)) (hs : isSub1 st = true) : PE X (.Subscript xa (.Slice none none (some st) p2) pos) (tI X.K cf (.rev a)) := by
  unfold isSub1 at hs
  split at hs
  · refine pe_imp (pe_revL ia) fun σ H Q ⟨ρ, fp, fz, d, ρ', s, dj, e, p⟩ => ?_
    simp only [ev] at e
    obtain ⟨x, ρ1, e1, ea⟩ := bind_inv e
    obtain ⟨w, ρ2, e2', eb⟩ := bind_inv ea
    clear e ea
    obtain ⟨e2, rfl⟩ := of_inv e2'
    cases eb
    refine step1 (q := quiet (.rev a)) s dj e1 (fun h => by simpa only [quiet] using h) fun v H1 z1 f2 z2 r s2 d2 x2 => ?_
    unfold revD at e2
    split at e2
    · rename_i l hx
      cases e2
      rw [hx] at r
      obtain ⟨a, vs, z', rfl, h, rl, rfl⟩ := r.toLst
      obtain ⟨z3, r3, s3⟩ := RepL.rev rl
      exact ⟨a, vs, rfl, SqL.of h, fun q hq => (pq_post s2 d2 x2 p).lst r3 (fun a m => List.mem_cons_of_mem _ (s3 a m)) q hq⟩
    · cases e2
  · cases hs
/-! ### built-in functions -/
theorem boot_bn (f : Bn) : bootBuiltins (bnName f) = some (bnVal f) := by
  cases f <;> decide +kernel
theorem ckA_star : ∀ {l : Ex} {xs : List Expr} (env : PySem.Env), ckA tb c l xs = true → starEach xs env = xs.map fun x => (false, eval x env) := by
  intro l
  induction l with
  | cons a r iha ihr =>
    intro xs env h
    cases xs with
    | nil => cases a <;> simp [ckA] at h
    | cons x xs =>
      by_cases hl : ∃ i, a = .lend i
      · obtain ⟨i, rfl⟩ := hl
        cases x <;> simp only [ckA, Bool.and_eq_true] at h
        all_goals first | (rw [show starEach (Expr.Name _ _ :: xs) env = (false, eval (Expr.Name _ _) env) :: starEach xs env from rfl, ihr env h.2]; rfl) | (simp only [ck, Bool.false_eq_true, false_and] at h)
      · have h' : ck tb c a x = true ∧ ckA tb c r xs = true := by
          cases a <;> first | (simpa only [ckA, Bool.and_eq_true] using h) | exact absurd ⟨_, rfl⟩ hl
        rw [ck_nostar h'.1, ihr env h'.2]; rfl
  | nil =>
    intro xs env h
    cases xs with
    | nil => rfl
    | cons x xs => simp [ckA] at h
  | _ => intro xs env h; cases xs <;> simp [ckA] at h
theorem back_any {pos : Pos} {xs : List Expr} {env : PySem.Env} (h : starEach xs env = xs.map fun x => (false, eval x env)) : (backTo pos (starEach xs env)).any (·.1) = false := by
  rw [h]
  simp [backTo]
theorem star_cons {x : Expr} {xs : List Expr} {env : PySem.Env} (h : starEach (x :: xs) env = (x :: xs).map fun x => (false, eval x env)) (h' : starEach xs env = xs.map fun x => (false, eval x env)) : starEach (x :: xs) env = (false, eval x env) :: starEach xs env := by
  rw [h, h']; rfl
theorem blt_pe (ok : XOk X tb cf c) {f : Bn} {l : Ex} {x : Expr} {xs : List Expr} {p pos : Pos} (hb : ckBlt tb c (bnName f) = true) (il : PA X (x :: xs) (tIA X.K cf l)) (h1 : starEach (x :: xs) X.env = (x :: xs).map fun x => (false, eval x X.env)) (h2 : starEach xs X.env = xs.map fun x => (false, eval x X.env)) :
    PE X (.Call (.Name (bnName f) p) (x :: xs) [] pos) (tI X.K cf (.blt f l)) := by
  obtain ⟨hm, hg, hn, hdb⟩ := ckBlt_ok ok hb
  have hc := blt_ok (X := X) ok.calm ok.gd (by have := ok.hu; omega) f
  have key : PE X (.Call (.Name (bnName f) p) (x :: xs) [] pos) (tCB (rB X.K (bltD f)) (tIA X.K cf l)) := by
    have hbt := boot_bn f
    cases f <;> first | exact pe_callB hc hg hm hbt il hn hdb (star_cons h1 h2) (back_any h2) | exact pe_callTy hc hg hm hbt il hn hdb (star_cons h1 h2) (back_any h2)
  refine pe_imp key fun σ H Q ⟨ρ, fp, fz, d, ρ', s, dj, e, p⟩ => ?_
  simp only [ev] at e
  obtain ⟨ys, ρ1, e1, ea⟩ := bind_inv e
  obtain ⟨as, ρ0, e0, eb⟩ := bind_inv e1
  obtain ⟨w, ρ2, e2', ec⟩ := bind_inv ea
  clear e e1 ea
  obtain ⟨hv, rfl⟩ := of_inv eb
  obtain ⟨e2, rfl⟩ := of_inv e2'
  cases ec
  refine stepA (q := quiet (.blt f l)) s dj e0 hv (fun h => by simpa only [quiet] using h) fun vs H1 z1 f2 z2 rl s2 d2 x2 => ?_
  exact ⟨_, z1, w, rl, e2, pq_post s2 d2 x2 p⟩
theorem rg_rep (H : Hp) (a b : Int) : RepL X.K H ((List.range (b - a).toNat).map fun k => .int (a + (k : Nat))) 0 (rgV a b) [] [] := by
  have := RepL.ints (K := X.K) (H := H) ((List.range (b - a).toNat).map fun k => a + (k : Nat))
  simpa only [rgV, List.map_map, Function.comp_def] using this
theorem lrng1_pe (ok : XOk X tb cf c) {a : Ex} {xa : Expr} {p p2 pos pos2 : Pos} (hb : ckBlt tb c "list" = true) (hb2 : ckBlt tb c "range" = true) (ia : PE X xa (tI X.K cf a)) (hs : starEach [xa] X.env = (false, eval xa X.env) :: starEach [] X.env) :
    PE X (.Call (.Name "list" p) [.Call (.Name "range" p2) [xa] [] pos2] [] pos) (tI X.K cf (.lrng1 a)) := by
  obtain ⟨hm, hg, hn, hdb⟩ := ckBlt_ok ok hb
  obtain ⟨hm2, hg2, hn2, hdb2⟩ := ckBlt_ok ok hb2
  refine pe_imp (pe_listRg ok.calm hg hm (prg_1 hg2 hm2 ia hs)) fun σ H Q ⟨ρ, fp, fz, d, ρ', s, dj, e, p⟩ => ?_
  simp only [ev] at e
  obtain ⟨⟨x, n⟩, ρ1, e1, ea⟩ := bind_inv e
  obtain ⟨l, ρ2, e2', eb⟩ := bind_inv ea
  clear e ea
  obtain ⟨e2, rfl⟩ := of_inv e2'
  split at eb
  · rename_i hl
    cases eb
    refine step1 (q := quiet (.lrng1 a)) s dj e1 (fun h => by simpa only [quiet] using h) fun v H1 z1 f2 z2 r s2 d2 x2 => ?_
    unfold rngD at e2
    split at e2
    · rename_i i j h1 h2
      cases h1
      simp only at h2
      subst h2
      split at e2
      · rename_i hc
        cases e2
        simp only [Bool.and_eq_true, decide_eq_true_eq] at hc
        cases r.toInt
        refine ⟨j, rfl, ⟨hc.1.1.1, hc.1.1.2, hc.1.2, hc.2, by simpa using hl⟩, fun q hq => ?_⟩
        exact (pq_post s2 d2 x2 p).lst (rg_rep H1 0 j) (fun _ m => absurd m List.not_mem_nil) q hq
      · cases e2
    · cases e2
  · cases eb
theorem lrng2_pe (ok : XOk X tb cf c) {a b : Ex} {xa xb : Expr} {p p2 pos pos2 : Pos} (hb : ckBlt tb c "list" = true) (hb2 : ckBlt tb c "range" = true) (ia : PE X xa (tI X.K cf a)) (ib : PE X xb (tI X.K cf b)) (hs : starEach [xa, xb] X.env = (false, eval xa X.env) :: starEach [xb] X.env) (hs2 : starEach [xb] X.env = (false, eval xb X.env) :: starEach [] X.env) :
    PE X (.Call (.Name "list" p) [.Call (.Name "range" p2) [xa, xb] [] pos2] [] pos) (tI X.K cf (.lrng2 a b)) := by
  obtain ⟨hm, hg, hn, hdb⟩ := ckBlt_ok ok hb
  obtain ⟨hm2, hg2, hn2, hdb2⟩ := ckBlt_ok ok hb2
  refine pe_imp (pe_listRg ok.calm hg hm (prg_2 hg2 hm2 ia ib hs hs2 (by rw [hs2]; rfl))) fun σ H Q ⟨ρ, fp, fz, d, ρ', s, dj, e, p⟩ => ?_
  simp only [ev] at e
  obtain ⟨⟨x, n⟩, ρ1, e1, ea⟩ := bind_inv e
  obtain ⟨⟨y, m⟩, ρ2, e2, eb⟩ := bind_inv ea
  obtain ⟨l, ρ3, e3', ec⟩ := bind_inv eb
  clear e ea eb
  obtain ⟨e3, rfl⟩ := of_inv e3'
  split at ec
  · rename_i hl
    cases ec
    refine step2 (q := quiet (.lrng2 a b)) s dj e1 e2 (fun h => and_iff2 (by simpa only [quiet] using h)) fun v u H2 z1 z2 f3 z3 r1 r2 s3 d3 x3 => ?_
    unfold rngD at e3
    split at e3
    · rename_i i j h1 h2
      simp only at h1 h2
      subst h1 h2
      split at e3
      · rename_i hc
        cases e3
        simp only [Bool.and_eq_true, decide_eq_true_eq] at hc
        cases r1.toInt; cases r2.toInt
        refine ⟨i, j, rfl, rfl, ⟨hc.1.1.1, hc.1.1.2, hc.1.2, hc.2, by simpa using hl⟩, fun q hq => ?_⟩
        exact (pq_post s3 d3 x3 p).lst (rg_rep H2 i j) (fun _ m => absurd m List.not_mem_nil) q hq
      · cases e3
    · cases e3
  · cases ec
end
end Pi
/-! Pi11: isinstance, methods, dict displays, calls of defs. -/
namespace Pi
open PySem L2

section
variable {X : Cx} {tb : Tb} {cf : Cf} {c : CkC}
/-! ### isinstance -/
theorem kit_all : ∀ a ∈ ["NoneType", "bool", "int", "str", "tuple", "list", "dict"], ∀ b ∈ ["int", "bool", "str", "list", "tuple", "dict"], kitB a b = some (a == b || (a == "bool" && b == "int")) := by decide +kernel
theorem tyX_rep {H : Hp} {d : D} {v : V} {z : List Addr} {n : String} (r : Rep X.K H d 0 v [] z) (h : tyD d = some n) : TyX X.K H v (.type n) := by
  cases d with
  | non => cases r.toNon; cases h; exact .base .non
  | bl b => cases r.toBl; cases h; exact .base (.bl b)
  | int b => cases r.toInt; cases h; exact .base (.int b)
  | str b => cases r.toStr; cases h; exact .base (.str b)
  | tup l => obtain ⟨a, vs, rfl, q, _⟩ := r.toTup; cases h; exact .base (.tup q)
  | ctup l =>
    obtain ⟨a, vs, rfl, q, _⟩ := r.toCtup
    cases h
    rcases q with (q | ⟨o, q⟩) | ⟨o, its, n, e, hc, _⟩
    · exact .base (.tup q)
    · exact .fTuple q
    · exact .kTuple e hc
  | lst l => obtain ⟨a, vs, _, rfl, q, _⟩ := r.toLst; cases h; exact .base (.lst q)
  | dk l =>
    obtain ⟨a, vs, _, rfl, q, _⟩ := r.toDk
    cases h
    rcases q with q | ⟨o, q⟩
    · exact .base (.dK q)
    · exact .fDict q
  | _ => simp [tyD] at h
theorem tyD_mem {d : D} {n : String} (h : tyD d = some n) : n ∈ ["NoneType", "bool", "int", "str", "tuple", "list", "dict"] := by
  cases d <;> simp [tyD] at h <;> subst h <;> simp
theorem ty_mem (t : Ty) : t.nm ∈ ["int", "bool", "str", "list", "tuple", "dict"] := by cases t <;> simp [Ty.nm]
theorem isinD_eq {d : D} {t : Ty} {b : Bool} (h : isinD d t = some b) : ∃ n, tyD d = some n ∧ (n == t.nm || (n == "bool" && t.nm == "int")) = b := by
  cases t <;> cases d <;> simp [isinD, tyD] at h <;> subst h <;> refine ⟨_, rfl, ?_⟩ <;> rfl
theorem boot_ty (t : Ty) : bootBuiltins (Str.ofString t.nm) = some (.type t.nm) := by cases t <;> decide +kernel
theorem isin_pe (ok : XOk X tb cf c) {a : Ex} {t : Ty} {xa : Expr} {p p2 pos : Pos} (hb : ckBlt tb c "isinstance" = true) (hb2 : ckBlt tb c (Str.ofString t.nm) = true) (ia : PE X xa (tI X.K cf a)) (hs : ∀ es, starEach (xa :: es) X.env = (false, eval xa X.env) :: starEach es X.env) :
    PE X (.Call (.Name "isinstance" p) [xa, .Name (Str.ofString t.nm) p2] [] pos) (tI X.K cf (.isin a t)) := by
  obtain ⟨hm, hg, hn, hdb⟩ := ckBlt_ok ok hb
  obtain ⟨hm2, hg2, hn2, hdb2⟩ := ckBlt_ok ok hb2
  have hty : PE X (.Name (Str.ofString t.nm) p2) (tC (.ty t.nm)) := pe_bltn hg2 hm2 (boot_ty t) rfl hn2 hdb2
  have e1 : starEach [Expr.Name (Str.ofString t.nm) p2] X.env = [(false, eval (Expr.Name (Str.ofString t.nm) p2) X.env)] := rfl
  have key := pe_callB (p := p) (pos := pos) call_isi hg hm (by decide +kernel) (pa_cons ia (pa_cons hty pa_nil rfl) (hs _)) hn hdb (hs _) (by rw [e1]; rfl)
  refine pe_imp key fun σ H Q ⟨ρ, fp, fz, d, ρ', s, dj, e, q⟩ => ?_
  simp only [ev] at e
  obtain ⟨x, ρ1, e1, ea⟩ := bind_inv e
  obtain ⟨b, ρ2, e2', eb⟩ := bind_inv ea
  clear e ea
  obtain ⟨e2, rfl⟩ := of_inv e2'
  cases eb
  refine step1 (q := quiet (.isin a t)) s dj e1 (fun h => by simpa only [quiet] using h) fun v H1 z1 f2 z2 r s2 d2 x2 => ?_
  obtain ⟨n, hn, hb⟩ := isinD_eq e2
  refine ⟨v, .ty t.nm, .type n, .type t.nm, b, rfl, .ty _, tyX_rep r hn, ?_, cmp_post s2 d2 x2 q⟩
  exact kit_ty (by rw [kit_all n (tyD_mem hn) t.nm (ty_mem t), hb])
/-! ### methods of built-in types -/
def tyG (X : Cx) (T : String) (x : V) (H : Hp) : Prop := ∀ (pins : List (Addr × Obj)) (σ : St) (s : Shared) (v : Value), Inv X pins σ H s → RelV x v → s.TypeIs v T ∧ ∀ a, v = .ref a → ∃ ob, s.heap.get? a = some ob ∧ ob.dict = none
def tMth (X : Cx) (T : String) (r : V → List V → Hp → VK → Prop) (to : TE) (t : TA) : TE := fun σ H Q => to σ H fun x H1 => tyG X T x H1 ∧ t σ H1 fun xs H2 => r x xs H2 Q
theorem meth_pe {T id : String} {name : Str} {r : V → List V → Hp → VK → Prop} {o : Expr} {es : List Expr} {to : TE} {t : TA} {apos cpos : Pos} (pa : PlainAttrs T) (slot : Slot T name id) (hty : typeOf (.builtin id) = pure (.type "method_descriptor")) (hm : MtR X id r) (ho : PE X o to) (ha : PA X es t)
    (hnc : ∀ f a k p, o ≠ .Call f a k p) (hline : (apos.endLine == cpos.line) = true) (h1 : starEach es X.env = es.map fun x => (false, eval x X.env)) (hl : es.length < 20) :
    PE X (.Call (.Attribute o name apos) es [] cpos) (tMth X T r to t) := by
  refine ⟨fun pins s σ H Q I h => ?_⟩
  have hfew : ((backTo cpos (starEach es X.env)).all (fun x => !x.1) && (backToKw cpos (keywordEach [] X.env)).all (fun x => x.1.isSome)
      && decide (es.length + ([] : List Keyword).length + (if ([] : List Keyword).isEmpty then 0 else 1) < 30)) = true := by
    rw [h1]
    simp only [backTo, List.map_map, List.all_map, Function.comp_def, Bool.not_false, List.all_eq_true, implies_true, Bool.and_eq_true, decide_eq_true_eq]
    exact ⟨⟨by simp, by simp [keywordEach, backToKw]⟩, by simp; omega⟩
  refine wpAny_Call_method_late (attr_base hnc) hfew hline rfl (thn (ho.run pins s σ H _ I h) fun v s1 ⟨x, H1, I1, r1, ty, q1⟩ => ?_)
  obtain ⟨t1, t2⟩ := ty pins σ s1 v I1 r1
  refine ⟨T, id, pa, slot, hty, t1, t2, ?_⟩
  have hA := ha.run cpos pins s1 σ H1 _ I1 q1
  refine Calls.callWith_builtin (back_any h1) ?_
  cases es with
  | nil =>
    refine PySem.evalArgs_none ?_
    have hA' : wpAny (model X.prog X.w) X.A (spliced []) (AP X pins σ (fun xs H2 => r x xs H2 Q)) X.xe s1 := hA
    have hB : wpAny (model X.prog X.w) X.A (pure ([] : List Value)) (AP X pins σ (fun xs H2 => r x xs H2 Q)) X.xe s1 := hA'
    intro Γ p hΓ
    obtain ⟨vs, H2, I2, r2, q2⟩ := hB Γ p hΓ
    exact hm pins s1 σ H2 x vs v [] Q I2 r1 r2 q2 Γ p hΓ
  | cons e es =>
    have hs : starEach (e :: es) X.env = (false, eval e X.env) :: es.map fun x => (false, eval x X.env) := h1
    rw [hs] at hA ⊢
    exact Calls.evalArgs_plain (thn hA fun us s2 ⟨vs, H2, I2, r2, q2⟩ => hm pins s2 σ H2 x vs v us Q I2 r1 r2 q2)
theorem tyG_list {x : V} {H : Hp} {a : Addr} {xs : List V} (e : x = .ref a) (h : H a = some (.lst xs)) : tyG X "list" x H := fun pins σ s v I r => by
  subst e
  exact tyV_is I r (.inl ⟨rfl, _, SqL.of h⟩)
theorem tyG_dict {x : V} {H : Hp} {a : Addr} (e : x = .ref a) (h : IsD H a) : tyG X "dict" x H := fun pins σ s v I r => by
  subst e
  obtain rfl : v = .ref a := r
  obtain ⟨t1, t2, _⟩ := isD_at I h
  exact ⟨t1, t2⟩
/-- d.get(k), d.get(k, x) -/
def rGet : V → List V → Hp → VK → Prop := fun x vs H Q => ∃ a y o, x = .ref a ∧ ((vs = [y] ∧ DGet H a y o ∧ Q (o.getD .non) H) ∨ ∃ z, vs = [y, z] ∧ DGet H a y o ∧ Q (o.getD z) H)
theorem mt_get (hu : X.A.units + 1 < cLine) : MtR X "dict.get" rGet := by
  intro pins s σ H x xs v us Q I rx rv ⟨a, y, o, e, h⟩
  subst e
  obtain rfl : v = .ref a := rx
  rcases h with ⟨rfl, g, q⟩ | ⟨z, rfl, g, q⟩
  · obtain ⟨u, rfl, ru⟩ := vals1 rv
    exact d_get1 hu I g ru fun w' s' I' r' => ⟨_, H, I', r', q⟩
  · obtain ⟨u, w, rfl, ru, rw'⟩ := vals2 rv
    exact d_get2 hu I g ru rw' fun w' s' I' r' => ⟨_, H, I', r', q⟩
theorem dget_of {H : Hp} {x : D} {v w : V} {z y : List Addr} {l : List (Key × D)} {k : Key} (r : Rep X.K H (.dk l) 0 v [] z) (s : Rep X.K H x 0 w [] y) (h : isKey x = some k) :
    ∃ a u, v = .ref a ∧ IsD H a ∧ DGet H a w u ∧ ((getK l k = none ∧ u = none) ∨ ∃ d p z', getK l k = some d ∧ u = some p ∧ Rep X.K H d 0 p [] z' ∧ ∀ a ∈ z', a ∈ z) := by
  obtain ⟨a, kvs, z', rfl, q, rk, rfl⟩ := r.toDk
  refine ⟨a, valV kvs k, rfl, .inl ⟨kvs, q⟩, .inl ⟨kvs, k, q, key_rep s h, rfl⟩, ?_⟩
  rcases rk.val k with ⟨a, b⟩ | ⟨d, p, a, b⟩
  · exact .inl ⟨a, b⟩
  · obtain ⟨p', z1, e, hr, hz⟩ := RepK.at0 rk k d a
    exact .inr ⟨d, p', z1, a, e, hr, fun a m => List.mem_cons_of_mem _ (hz a m)⟩
theorem get_pe (ok : XOk X tb cf c) {o l : Ex} {xo : Expr} {xs : List Expr} {apos cpos : Pos} (io : PE X xo (tI X.K cf o)) (il : PA X xs (tIA X.K cf l)) (hnc : ∀ f a k p, xo ≠ .Call f a k p) (hline : (apos.endLine == cpos.line) = true) (h1 : starEach xs X.env = xs.map fun x => (false, eval x X.env)) (hl : xs.length < 20) :
    PE X (.Call (.Attribute xo "get" apos) xs [] cpos) (tI X.K cf (.mth .get o l)) := by
  refine pe_imp (meth_pe PySem.F.plainAttrs_dict PySem.F.slot_dict_get PySem.F.type_dict_get (mt_get (by have := ok.hu; omega)) io il hnc hline h1 hl) fun σ H Q ⟨ρ, fp, fz, d, ρ', s, dj, e, p⟩ => ?_
  simp only [ev] at e
  obtain ⟨x, ρ1, e1, ea⟩ := bind_inv e
  obtain ⟨ys, ρ2, e2, eb⟩ := bind_inv ea
  obtain ⟨as, ρ0, e0, ec⟩ := bind_inv e2
  obtain ⟨w, ρ3, e3', ed⟩ := bind_inv eb
  clear e ea e2 eb
  obtain ⟨hv, rfl⟩ := of_inv ec
  obtain ⟨e3, rfl⟩ := of_inv e3'
  cases ed
  have hq : quiet (.mth .get o l) = true → quiet o = true ∧ quiet l = true := fun h => and_iff2 (by simpa only [quiet] using h)
  refine step1 (q := quiet (.mth .get o l)) s dj e1 (fun h => (hq h).1) fun v H1 z1 f2 z2 r1 s2 d2 x2 => ?_
  obtain ⟨x, n⟩ := x
  cases x <;> simp only [mthD, reduceCtorEq] at e3
  rename_i kvs
  have t1 := r1.trk
  have d2' : Disj ([] ++ f2) (z1 ++ z2) := d2
  have x2' : Ext (quiet (.mth .get o l)) H fp fz H1 ([] ++ f2) (z1 ++ z2) := x2
  have hd : ∃ a, v = .ref a ∧ IsD H1 a := by
    obtain ⟨a, vs, _, rfl, q, _⟩ := r1.toDk
    exact ⟨a, rfl, .inl ⟨vs, q⟩⟩
  obtain ⟨a, hva, hia⟩ := hd
  refine ⟨tyG_dict hva hia, stepA (q := quiet (.mth .get o l)) s2 d2'.right e0 hv (fun h => (hq h).2) fun vs H2 z3 f3 z4 rl s3 d3 x3 => ?_⟩
  have r1' := Rep.stay x3.stay _ _ _ _ _ r1 (fun _ m => absurd m List.not_mem_nil) d2'.off2
  have d4 := Ext.disj d2' (Trk.nil _) t1.2 x3 d3
  have x4 := Ext.trans x2' x3
  rw [← List.append_assoc] at d4 x4
  unfold getM at e3
  split at e3
  · rename_i k hk
    simp only [Option.map_eq_some_iff] at e3
    obtain ⟨kk, hkk, rfl⟩ := e3
    rw [hk] at rl
    obtain ⟨u, rfl, ru⟩ := rl.one
    obtain ⟨a', o', ea', _, g, hg⟩ := dget_of r1' ru hkk
    rw [hva] at ea'
    cases ea'
    refine ⟨a, u, o', hva, .inl ⟨rfl, g, ?_⟩⟩
    rcases hg with ⟨hg, rfl⟩ | ⟨d, w, z', hg, rfl, hr, hz⟩
    · rw [hg] at p
      exact post_old (z := []) s3 d4 x4 (by simp [Rep]) (fun _ m => absurd m List.not_mem_nil) p
    · rw [hg] at p
      exact post_old s3 d4 x4 hr (fun a m => List.mem_append_left _ (hz a m)) p
  · rename_i k y hk
    simp only [Option.map_eq_some_iff] at e3
    obtain ⟨kk, hkk, rfl⟩ := e3
    rw [hk] at rl
    obtain ⟨u, w0, y1, y2, rfl, ru, rw', rfl⟩ := rl.two
    obtain ⟨a', o', ea', _, g, hg⟩ := dget_of r1' ru hkk
    rw [hva] at ea'
    cases ea'
    refine ⟨a, u, o', hva, .inr ⟨w0, rfl, g, ?_⟩⟩
    rcases hg with ⟨hg, rfl⟩ | ⟨d, w, z', hg, rfl, hr, hz⟩
    · rw [hg] at p
      exact post_old s3 d4 x4 rw' (fun a m => List.mem_append_right _ (List.mem_append_right _ m)) p
    · rw [hg] at p
      exact post_old s3 d4 x4 hr (fun a m => List.mem_append_left _ (hz a m)) p
  · cases e3
end
end Pi
/-! Pi12: calls of defs. -/
namespace Pi
open PySem L2

theorem gt_st_same : ∀ (ρ : Env) (i : Nat) (x : Option Sl), i < ρ.length → gt (st ρ i x) i = x
  | [], i, x, h => by simp at h
  | _ :: _, 0, x, _ => rfl
  | _ :: ρ, i + 1, x, h => gt_st_same ρ i x (by simpa using h)
theorem gt_st_ne : ∀ (ρ : Env) (i j : Nat) (x : Option Sl), j ≠ i → gt (st ρ i x) j = gt ρ j
  | [], _, _, _, _ => by simp [st, gt]
  | _ :: _, 0, 0, _, h => absurd rfl h
  | _ :: _, 0, j + 1, _, _ => rfl
  | _ :: _, i + 1, 0, _, _ => rfl
  | _ :: ρ, i + 1, j + 1, x, h => gt_st_ne ρ i j x (by omega)
theorem st_none : ∀ (ρ : Env) (i : Nat), gt ρ i = none → st ρ i none = ρ
  | [], _, _ => rfl
  | x :: _, 0, h => by cases x with | none => rfl | some _ => cases h
  | _ :: ρ, i + 1, h => by simp only [st]; rw [st_none ρ i h]
theorem st_len : ∀ (ρ : Env) (i : Nat) (x : Option Sl), (st ρ i x).length = ρ.length
  | [], _, _ => rfl
  | _ :: _, 0, _ => rfl
  | _ :: ρ, i + 1, x => by simp [st, st_len ρ i x]
theorem gt_map : ∀ (xs : List Sl) (i : Nat), gt (xs.map some) i = xs[i]?
  | [], _ => by simp [gt]
  | _ :: _, 0 => rfl
  | _ :: xs, i + 1 => by simpa [gt] using gt_map xs i
theorem gt_get : ∀ (ρ : Env) (i : Nat), gt ρ i = (ρ[i]?).getD none
  | [], _ => by simp [gt]
  | _ :: _, 0 => rfl
  | _ :: ρ, i + 1 => by simpa [gt] using gt_get ρ i
section
variable {K : PySem.W.Frag} {H : Hp}
theorem perm3 {a b c : List Addr} : ((a ++ b) ++ c).Perm (b ++ (a ++ c)) := by
  rw [← List.append_assoc]
  exact List.Perm.append_right c List.perm_append_comm
theorem resolve_ok {σ : St} : ∀ {as : List Ar} {vs : List V} {ρ ρ' : Env} {xs : List Sl} {f1 z1 f2 z2 : List Addr}, AL K H σ as vs f1 z1 → SL K H σ ρ f2 z2 → resolveA as ρ = some (xs, ρ') →
    ∃ f3 z3 f4 z4, SL K H (vs.map some) (xs.map some) f3 z3 ∧ SL K H σ ρ' f4 z4 ∧ (f3 ++ f4).Perm (f1 ++ f2) ∧ (z3 ++ z4).Perm (z1 ++ z2) ∧ ((∀ i, Ar.ln i ∉ as) → f3 = f1)
  | [], vs, ρ, ρ', xs, f1, z1, f2, z2, al, s, h => by
    simp only [resolveA, Option.some.injEq, Prod.mk.injEq] at h
    obtain ⟨rfl, rfl⟩ := h
    obtain ⟨rfl, rfl, rfl⟩ := al
    exact ⟨[], [], f2, z2, ⟨rfl, rfl⟩, s, .refl _, .refl _, fun _ => rfl⟩
  | .val x :: as, vs, ρ, ρ', xs, f1, z1, f2, z2, al, s, h => by
    obtain ⟨v, vs', g1, g2, y1, y2, rfl, rfl, rfl, r, al⟩ := al
    simp only [resolveA] at h
    split at h
    · rename_i ys ρ2 hr
      cases h
      obtain ⟨f3, z3, f4, z4, s1, s2, p, q, hn⟩ := resolve_ok al s hr
      refine ⟨g1 ++ f3, y1 ++ z3, f4, z4, ⟨v, g1, f3, y1, z3, rfl, rfl, rfl, r, s1⟩, s2, ?_, ?_, fun h => ?_⟩
      · rw [List.append_assoc, List.append_assoc]; exact List.Perm.append_left _ p
      · rw [List.append_assoc, List.append_assoc]; exact List.Perm.append_left _ q
      · rw [hn fun i m => h i (List.mem_cons_of_mem _ m)]
    · cases h
  | .ln i :: as, vs, ρ, ρ', xs, f1, z1, f2, z2, al, s, h => by
    obtain ⟨v, vs', rfl, hv, al⟩ := al
    simp only [resolveA] at h
    split at h
    · rename_i sl g
      split at h
      · rename_i ys ρ2 hr
        cases h
        obtain ⟨v', k1, k2, w1, w2, hv', r, s0, p0, q0⟩ := SL.take (d := sl.1) (n := sl.2) s g
        rw [hv] at hv'
        cases hv'
        obtain ⟨f3, z3, f4, z4, s1, s2, p, q, _⟩ := resolve_ok al s0 hr
        refine ⟨k1 ++ f3, w1 ++ z3, f4, z4, ⟨v, k1, f3, w1, z3, rfl, rfl, rfl, r, s1⟩, s2, ?_, ?_, fun h => absurd List.mem_cons_self (h i)⟩
        · rw [List.append_assoc]
          refine (List.Perm.append_left _ p).trans ?_
          rw [← List.append_assoc]
          exact perm3.trans (List.Perm.append_left _ p0)
        · rw [List.append_assoc]
          refine (List.Perm.append_left _ q).trans ?_
          rw [← List.append_assoc]
          exact perm3.trans (List.Perm.append_left _ q0)
      · cases h
    · cases h
theorem al_lend {σ : St} : ∀ {as : List Ar} {vs : List V} {f z : List Addr}, AL K H σ as vs f z → ∀ (p i : Nat), as[p]? = some (.ln i) → ∃ v, vs[p]? = some v ∧ σ[i]? = some (some v)
  | [], _, _, _, _, p, i, h => by simp at h
  | .val x :: as, vs, f, z, al, 0, i, h => by simp at h
  | .val x :: as, vs, f, z, al, p + 1, i, h => by
    obtain ⟨v, vs', g1, g2, y1, y2, rfl, rfl, rfl, r, al⟩ := al
    exact al_lend al p i (by simpa using h)
  | .ln k :: as, vs, f, z, al, 0, i, h => by
    obtain ⟨v, vs', rfl, hv, al⟩ := al
    have : k = i := by simpa using h
    subst this
    exact ⟨v, rfl, hv⟩
  | .ln k :: as, vs, f, z, al, p + 1, i, h => by
    obtain ⟨v, vs', rfl, hv, al⟩ := al
    exact al_lend al p i (by simpa using h)
theorem al_len {σ : St} : ∀ {as : List Ar} {vs : List V} {f z : List Addr}, AL K H σ as vs f z → vs.length = as.length
  | [], _, _, _, al => by obtain ⟨rfl, _⟩ := al; rfl
  | .val x :: as, vs, f, z, al => by
    obtain ⟨v, vs', g1, g2, y1, y2, rfl, rfl, rfl, r, al⟩ := al
    simp [al_len al]
  | .ln k :: as, vs, f, z, al => by
    obtain ⟨v, vs', rfl, hv, al⟩ := al
    simp [al_len al]
/-- some of the arguments in another order -/
theorem sel_go {vs : List V} {xs : List Sl} : ∀ (ks : List Nat) {ρ : Env} {f z : List Addr}, SL K H (vs.map some) ρ f z → ks.Nodup → vs.length = xs.length → (∀ k ∈ ks, gt ρ k = xs[k]?) →
    ∃ f' z', SL K H ((ks.filterMap fun k => vs[k]?).map some) ((ks.filterMap fun k => xs[k]?).map some) f' z' ∧ Less f z f' z'
  | [], ρ, f, z, s, _, _, _ => ⟨[], [], ⟨rfl, rfl⟩, f, by simp, fun _ m => absurd m List.not_mem_nil⟩
  | k :: ks, ρ, f, z, s, nd, hl, hg => by
    have nd' := List.nodup_cons.mp nd
    cases hx : xs[k]? with
    | none =>
      have hv : vs[k]? = none := by
        rw [List.getElem?_eq_none_iff] at hx ⊢; omega
      obtain ⟨f', z', a, b⟩ := sel_go ks s nd'.2 hl fun j m => hg j (List.mem_cons_of_mem _ m)
      refine ⟨f', z', ?_, b⟩
      simp only [List.filterMap_cons, hx, hv]
      exact a
    | some x =>
      have g := hg k List.mem_cons_self
      rw [hx] at g
      obtain ⟨v, k1, k2, w1, w2, hv, r, s0, p0, q0⟩ := SL.take (d := x.1) (n := x.2) s g
      have hv' : vs[k]? = some v := by
        rw [List.getElem?_map] at hv
        cases e : vs[k]? with
        | none => rw [e] at hv; cases hv
        | some u => rw [e] at hv; cases hv; rfl
      obtain ⟨f', z', a, mv, pm, sm⟩ := sel_go ks s0 nd'.2 hl fun j m => by
        have hne : j ≠ k := fun e => nd'.1 (by rw [← e]; exact m)
        rw [gt_st_ne _ _ _ _ hne]
        exact hg j (List.mem_cons_of_mem _ m)
      refine ⟨k1 ++ f', w1 ++ z', ?_, mv, ?_, fun y m => ?_⟩
      · simp only [List.filterMap_cons, hx, hv', List.map_cons]
        exact ⟨v, k1, f', w1, z', rfl, rfl, rfl, r, a⟩
      · rw [List.append_assoc]
        exact (List.Perm.append_left _ pm).trans p0
      · rcases List.mem_append.mp m with m | m
        · exact .inl (q0.mem_iff.mp (List.mem_append_left _ m))
        · exact (sm y m).imp (fun h => q0.mem_iff.mp (List.mem_append_right _ h)) id
theorem sel_ok {vs : List V} {xs : List Sl} {f z : List Addr} (sel : List Nat) (nd : sel.Nodup) (s : SL K H (vs.map some) (xs.map some) f z) : ∃ f' z', SL K H ((selL vs sel).map some) ((selL xs sel).map some) f' z' ∧ Less f z f' z' := by
  cases sel with
  | nil => exact ⟨f, z, s, .refl _ _⟩
  | cons k ks =>
    have hl : vs.length = xs.length := by have := SL.len s; simpa using this
    exact sel_go (k :: ks) s nd hl fun j _ => gt_map xs j
/-- what was lent comes back -/
theorem backs_ok {σ : St} {ws : List V} {outs : List (Option Sl)} : ∀ (bs : List (Nat × Nat)) {ρ o : Env} {f z g y : List Addr}, SL K H σ ρ f z → SL K H (ws.map some) o g y → (bs.map (·.1)).Nodup → (bs.map (·.2)).Nodup →
    (∀ p ∈ bs, gt ρ p.1 = none ∧ gt o p.2 = (outs[p.2]?).getD none ∧ ∃ w, σ[p.1]? = some (some w) ∧ ws[p.2]? = some w) →
    ∃ f' z', SL K H σ (backsTo outs ρ bs) f' z' ∧ Less (g ++ f) (y ++ z) f' z'
  | [], ρ, o, f, z, g, y, s, t, _, _, _ => ⟨f, z, s, g, List.perm_append_comm, fun a m => .inl (List.mem_append_right _ m)⟩
  | (i, j) :: bs, ρ, o, f, z, g, y, s, t, n1, n2, h => by
    have n1' := List.nodup_cons.mp n1
    have n2' := List.nodup_cons.mp n2
    obtain ⟨h1, h2, w, h3, h4⟩ := h (i, j) List.mem_cons_self
    simp only at h1 h2 h3 h4
    simp only [backsTo]
    cases hx : (outs[j]?).getD none with
    | none =>
      rw [st_none ρ i h1]
      exact backs_ok bs s t n1'.2 n2'.2 fun p m => h p (List.mem_cons_of_mem _ m)
    | some x =>
      rw [hx] at h2
      obtain ⟨w', k1, k2, w1, w2, hv, r, t0, p0, q0⟩ := SL.take (d := x.1) (n := x.2) t h2
      have hw : w' = w := by
        rw [List.getElem?_map, h4] at hv
        cases hv; rfl
      subst hw
      have s0 : SL K H σ (st ρ i none) f z := by rw [st_none ρ i h1]; exact s
      obtain ⟨f3, z3, s3, p3, q3⟩ := SL.fill s0 h3 r
      obtain ⟨f', z', s', mv, pm, sm⟩ := backs_ok bs s3 t0 n1'.2 n2'.2 fun p m => by
        obtain ⟨a, b, c⟩ := h p (List.mem_cons_of_mem _ m)
        refine ⟨?_, ?_, c⟩
        · have hne : p.1 ≠ i := fun e => n1'.1 (by rw [← e]; exact List.mem_map.mpr ⟨p, m, rfl⟩)
          rw [gt_st_ne _ _ _ _ hne]; exact a
        · have hne : p.2 ≠ j := fun e => n2'.1 (by rw [← e]; exact List.mem_map.mpr ⟨p, m, rfl⟩)
          rw [gt_st_ne _ _ _ _ hne]; exact b
      refine ⟨f', z', s', mv, pm.trans ?_, fun a m => ?_⟩
      · refine (List.Perm.append_left _ p3.symm).trans ?_
        rw [← List.append_assoc]
        exact List.Perm.append_right _ (List.perm_append_comm.trans p0)
      · refine (sm a m).imp (fun h => ?_) id
        rcases List.mem_append.mp h with h | h
        · exact List.mem_append_left _ (q0.mem_iff.mp (List.mem_append_right _ h))
        · rcases List.mem_append.mp (q3.mem_iff.mpr h) with h | h
          · exact List.mem_append_left _ (q0.mem_iff.mp (List.mem_append_left _ h))
          · exact List.mem_append_right _ h
end
/-! ### the call -/
section
variable {X : Cx} {tb : Tb} {cf : Cf} {c : CkC}
theorem evA_lends : ∀ {l : Ex} {ρ ρ' : Env} {as : List Ar} (k : Nat), evA cf l ρ = .ok as ρ' → ∀ q ∈ lendsOf l k, k ≤ q.2 ∧ as[q.2 - k]? = some (.ln q.1) := by
  intro l
  induction l with
  | cons a r iha ihr =>
    intro ρ ρ' as k h q m
    by_cases hl : ∃ i, a = .lend i
    · obtain ⟨i, rfl⟩ := hl
      simp only [evA] at h
      split at h
      · obtain ⟨xs, ρ2, e2, eb⟩ := bind_inv h
        cases eb
        simp only [lendsOf, List.mem_cons] at m
        rcases m with rfl | m
        · exact ⟨Nat.le_refl _, by simp⟩
        · obtain ⟨a, b⟩ := ihr (k + 1) e2 q m
          refine ⟨by omega, ?_⟩
          rw [show q.2 - k = (q.2 - (k + 1)) + 1 by omega]
          simpa using b
      · cases h
    · rw [evA_cons (fun i e => hl ⟨i, e⟩)] at h
      obtain ⟨x, ρ1, e1, ea⟩ := bind_inv h
      obtain ⟨xs, ρ2, e2, eb⟩ := bind_inv ea
      cases eb
      have hm : q ∈ lendsOf r (k + 1) := by
        cases a <;> first | (simpa only [lendsOf] using m) | exact absurd ⟨_, rfl⟩ hl
      obtain ⟨a, b⟩ := ihr (k + 1) e2 q hm
      refine ⟨by omega, ?_⟩
      rw [show q.2 - k = (q.2 - (k + 1)) + 1 by omega]
      simpa using b
  | _ => intro ρ ρ' as k h q m; simp [lendsOf] at m
theorem evA_noln : ∀ {l : Ex} {ρ ρ' : Env} {as : List Ar} (k : Nat), evA cf l ρ = .ok as ρ' → lendsOf l k = [] → ∀ i, Ar.ln i ∉ as := by
  intro l
  induction l with
  | cons a r iha ihr =>
    intro ρ ρ' as k h hn i m
    by_cases hl : ∃ i, a = .lend i
    · obtain ⟨i, rfl⟩ := hl
      simp [lendsOf] at hn
    · rw [evA_cons (fun i e => hl ⟨i, e⟩)] at h
      obtain ⟨x, ρ1, e1, ea⟩ := bind_inv h
      obtain ⟨xs, ρ2, e2, eb⟩ := bind_inv ea
      cases eb
      have hm : lendsOf r (k + 1) = [] := by
        cases a <;> first | (simpa only [lendsOf] using hn) | exact absurd ⟨_, rfl⟩ hl
      rcases List.mem_cons.mp m with h' | h'
      · cases h'
      · exact ihr (k + 1) e2 hm i h'
  | nil => intro ρ ρ' as k h hn i m; simp only [evA] at h; cases h; exact absurd m List.not_mem_nil
  | _ => intro ρ ρ' as k h hn i m; simp [evA] at h
theorem evA_len : ∀ {l : Ex} {xs : List Expr} {ρ ρ' : Env} {as : List Ar}, evA cf l ρ = .ok as ρ' → ckA tb c l xs = true → as.length = xs.length := by
  intro l
  induction l with
  | nil =>
    intro xs ρ ρ' as h hc
    simp only [evA] at h
    cases h
    cases xs <;> simp [ckA] at hc ⊢
  | cons a r iha ihr =>
    intro xs ρ ρ' as h hc
    cases xs with
    | nil => cases a <;> simp [ckA] at hc
    | cons x xs =>
      by_cases hl : ∃ i, a = .lend i
      · obtain ⟨i, rfl⟩ := hl
        simp only [evA] at h
        split at h
        · obtain ⟨ys, ρ2, e2, eb⟩ := bind_inv h
          cases eb
          have hc' : ckA tb c r xs = true := by
            cases x <;> simp only [ckA, Bool.and_eq_true] at hc <;> exact hc.2
          simp [ihr e2 hc']
        · cases h
      · rw [evA_cons (fun i e => hl ⟨i, e⟩)] at h
        obtain ⟨x, ρ1, e1, ea⟩ := bind_inv h
        obtain ⟨ys, ρ2, e2, eb⟩ := bind_inv ea
        cases eb
        have hc' : ckA tb c r xs = true := by
          cases a <;> first | (simp only [ckA, Bool.and_eq_true] at hc; exact hc.2) | exact absurd ⟨_, rfl⟩ hl
        simp [ihr e2 hc']
  | _ => intro xs ρ ρ' as h hc; simp [evA] at h
theorem sel_at {α : Type} {l : List α} {sel : List Nat} {k : Nat} {v : α} (nd : sel.Nodup) (hs : ∀ j ∈ sel, j < l.length) (h : l[k]? = some v) (hk : sel = [] ∨ k ∈ sel) : (selL l sel)[parOf sel k]? = some v := by
  cases sel with
  | nil => simpa [selL, parOf] using h
  | cons a ks =>
    have hm : k ∈ a :: ks := by rcases hk with h | h; cases h; exact h
    simp only [selL, parOf, List.isEmpty_cons, Bool.false_eq_true, if_false]
    have key : ∀ (ks : List Nat), k ∈ ks → (∀ j ∈ ks, j < l.length) → (ks.filterMap fun k => l[k]?)[ks.idxOf k]? = some v := by
      intro ks
      induction ks with
      | nil => intro m; cases m
      | cons b bs ih =>
        intro m hb
        have hb0 := hb b List.mem_cons_self
        simp only [List.filterMap_cons, List.getElem?_eq_getElem hb0]
        by_cases e : b = k
        · subst e
          rw [List.idxOf_cons_self]
          simp only [List.getElem?_cons_zero]
          rw [← h, List.getElem?_eq_getElem hb0]
        · have m' : k ∈ bs := (List.mem_cons.mp m).resolve_left (fun h => e h.symm)
          have hbk : (b == k) = false := beq_false_of_ne e
          rw [List.idxOf_cons, hbk]
          simpa using ih m' fun j hj => hb j (List.mem_cons_of_mem _ hj)
    exact key _ hm hs
theorem run_fnG {k : Nat} {f : Addr} {fd : FuncData} {ps ks : List Str} {sp : Sp} {pins : List (Addr × Obj)} {σ : St} {H : Hp} {s : Shared} {Q : VK} {us ws bs : List Value} {vs : List V} (F : FnG X.prog X.w X.K X.mg X.base k f fd ps sp) (hr : Room k X.A) (hg : X.A.guards = some [])
    (I : Inv X pins σ H s) (hb : BindsTo s fd ⟨us, ks.zip ws⟩ (ps.zip bs)) (r : Vals vs bs) (h : sp vs H Q E0) : wpAny (model X.prog X.w) X.A (call (.ref f) us (ks.zip ws)) (EP X pins σ Q) X.xe s := by
  refine wpAny_call (codeAny_mono (F.run X.A X.stack s H ⟨us, ks.zip ws⟩ bs vs Q E0 hr hg I.env0 hb r h) fun r s' hq => ?_)
  cases r with
  | error e => exact False.elim hq
  | ok fl =>
    cases fl with
    | ret u => exact I.after hq
    | _ => exact False.elim hq
theorem vals_sel {vs : List V} {us : List Value} (r : Vals vs us) (sel : List Nat) : Vals (selL vs sel) (selL us sel) := by
  cases sel with
  | nil => exact r
  | cons a ks =>
    simp only [selL]
    generalize a :: ks = l
    induction l with
    | nil => exact .nil
    | cons b bs ih =>
      simp only [List.filterMap_cons]
      cases e : vs[b]? with
      | none => rw [r.none_of e]; exact ih
      | some v =>
        obtain ⟨u, hu, rv⟩ := r.get e
        rw [hu]
        exact .cons rv ih
theorem kw_names : ∀ {kws : List Keyword} {ks : List Str} (pos : Pos) (env : PySem.Env), kwNames kws = some ks → (backToKw pos (keywordEach kws env)).all (·.1.isSome) = true ∧ (backToKw pos (keywordEach kws env)).filterMap (·.1) = ks ∧ (backToKw pos (keywordEach kws env)).any (·.1.isNone) = false ∧ kws.length = ks.length
  | [], ks, pos, env, h => by
    simp only [kwNames, Option.some.injEq] at h
    subst h
    exact ⟨rfl, rfl, rfl, rfl⟩
  | ⟨some n, e, p⟩ :: r, ks, pos, env, h => by
    simp only [kwNames, Option.map_eq_some_iff] at h
    obtain ⟨ks', h, rfl⟩ := h
    obtain ⟨a, b, c, d⟩ := kw_names pos env h
    refine ⟨?_, ?_, ?_, by simp [d]⟩
    · simpa [backToKw, keywordEach] using a
    · simpa [backToKw, keywordEach] using b
    · simpa [backToKw, keywordEach] using c
  | ⟨none, e, p⟩ :: r, ks, pos, env, h => by simp [kwNames] at h
/-- the tree of a call with positional arguments and keywords -/
theorem call_pe {x : Str} {xs : List Expr} {kws : List Keyword} {p pos : Pos} {f : Addr} {ks : List Str} {t : TA} {r : List V → Hp → VK → Prop} (hg : Gl X x) (hm : X.mg x = some (.ref f)) (hk : PySem.W.keepIn X.K (.ref f) = true) (hdb : (x == ("__debug__" : Str)) = false)
    (hn : kwNames kws = some ks) (h1 : starEach xs X.env = xs.map fun x => (false, eval x X.env)) (ia : PAK X xs kws t)
    (hc : ∀ (pins : List (Addr × Obj)) (s : Shared) (σ : St) (H : Hp) (vs : List V) (us ws : List Value) (Q : VK), Inv X pins σ H s → Vals vs (us ++ ws) → us.length = xs.length → ws.length = ks.length → r vs H Q → wpAny (model X.prog X.w) X.A (call (.ref f) us (ks.zip ws)) (EP X pins σ Q) X.xe s) :
    PE X (.Call (.Name x p) xs kws pos) (fun σ H Q => t σ H fun vs H1 => r vs H1 Q) := by
  refine ⟨fun pins s σ H Q I h => ?_⟩
  obtain ⟨k1, k2, k3, k4⟩ := kw_names pos X.env hn
  have hr := ia.run pos pins s σ H _ I h
  have hpl : ((backTo pos (starEach xs X.env)).any (·.1) || (backToKw pos (keywordEach kws X.env)).any (·.1.isNone)) = false := by rw [back_any h1, k3]; rfl
  refine wpAny_Call_Name_kw (ld_glob I hg hm ?_ hdb)
  cases xs with
  | nil =>
    refine PySem.W.callWith_KW0 (h₀ := X.base) I.ok.mod.kin hk k1 ?_ hpl
    have hB : wpAny (model X.prog X.w) X.A (pure ([] : List Value)) (fun us s1 => wpAny (model X.prog X.w) X.A (evalAll ((backToKw pos (keywordEach kws X.env)).map (·.2)))
      (fun ws s2 => us.length = 0 ∧ ws.length = kws.length ∧ AP X pins σ (fun vs H1 => r vs H1 Q) (us ++ ws) s2) X.xe s1) X.xe s := hr
    have hC : wpAny (model X.prog X.w) X.A (evalAll ((backToKw pos (keywordEach kws X.env)).map (·.2))) (fun ws s2 => ([] : List Value).length = 0 ∧ ws.length = kws.length ∧ AP X pins σ (fun vs H1 => r vs H1 Q) ([] ++ ws) s2) X.xe s := fun Γ p hΓ => hB Γ p hΓ Γ p hΓ
    refine thn hC fun ws s2 ⟨_, l2, vs, H2, I2, rv, q2⟩ => ⟨I2.kIn, ?_⟩
    rw [k2]
    exact hc pins s2 σ H2 vs [] ws Q I2 rv rfl (l2.trans k4) q2
  | cons e es =>
    have hs : starEach (e :: es) X.env = (false, eval e X.env) :: starEach es X.env := by
      have h2 : starEach (e :: es) X.env = (false, eval e X.env) :: es.map fun x => (false, eval x X.env) := h1
      cases e with
      | Starred y q =>
        have h3 : starEach (Expr.Starred y q :: es) X.env = (true, eval y X.env) :: starEach es X.env := rfl
        rw [h3] at h2
        injection h2 with h4 _
        injection h4 with h5 _
        cases h5
      | _ => rfl
    refine PySem.W.callWith_KW (h₀ := X.base) I.ok.mod.kin hk k1 (thn hr fun us s1 hu => thn hu fun ws s2 ⟨l1, l2, vs, H2, I2, rv, q2⟩ => ⟨I2.kIn, ?_⟩) hpl hs
    rw [k2]
    exact hc pins s2 σ H2 vs us ws Q I2 rv l1 (l2.trans k4) q2
theorem SL.nones {K : PySem.W.Frag} {H : Hp} : ∀ σ : St, SL K H σ (List.replicate σ.length none) [] []
  | [] => ⟨rfl, rfl⟩
  | _ :: σ => SL.nones σ
theorem run_makeG {C f : Addr} {k : Nat} {fd : FuncData} {ps : List Str} {cl : List Sl → Cr} {pins : List (Addr × Obj)} {σ : St} {H : Hp} {s : Shared} {Q : VK} {us us' : List Value} {vs : List V} (M : Mk X.K C f) (F : FnG X.prog X.w X.K X.mg X.base k f fd ps (spI X.K C cl)) (hr : Room (k + 1) X.A) (hg : X.A.guards = some [])
    (ho : ∀ args r outs, cl args = .ok r outs → outs = List.replicate args.length none) (hb : ∀ (s : Shared) (self : Value), X.K.In s.heap → BindsTo s fd ⟨self :: us, []⟩ (ps.zip (self :: us'))) (I : Inv X pins σ H s) (rv : Vals vs us') (h : spD X.K cl vs H Q E0) :
    wpAny (model X.prog X.w) X.A (call (.ref C) us) (EP X pins σ Q) X.xe s := by
  obtain ⟨args, fp, fz, r, outs, sl, dj, hcall, fin⟩ := h
  have nx : H (s.heap.objs.size + 1) = none := I.hok.fresh (Nat.le_succ _)
  have nd : H s.heap.objs.size = none := I.hok.fresh (Nat.le_refl _)
  have hne : s.heap.objs.size ≠ s.heap.objs.size + 1 := Nat.ne_of_lt (Nat.lt_succ_self _)
  generalize hx : s.heap.objs.size + 1 = x at nx hne
  generalize hdx : s.heap.objs.size = dx at nd hne
  have st0 : Stay [] H (upd (upd H dx (.own x)) x (.ins C dx [])) := fun a o ha _ => by
    have h1 : a ≠ x := fun e => by rw [e, nx] at ha; cases ha
    have h2 : a ≠ dx := fun e => by rw [e, nd] at ha; cases ha
    rw [upd_ne h1, upd_ne h2]; exact ha
  have t := sl.trk
  have hq : spI X.K C cl (.ref x :: vs) (upd (upd H dx (.own x)) x (.ins C dx [])) (fun v H2 => v = .non ∧ Q (.ref x) H2) E0 := by
    refine ⟨x, dx, vs, args, fp, fz, r, outs, rfl, upd_same, SL.stay st0 sl (fun _ _ m => absurd m List.not_mem_nil) (fun _ _ m => absurd m List.not_mem_nil), dj, fun m => t.1 x m nx, fun m => t.2 x m nx, hcall, fun H' rr st => ⟨rfl, ?_⟩⟩
    have hl := SL.len sl
    rw [List.length_map, List.length_map] at hl
    refine fin (.ref x) H' [] [x] [] [] rr ?_ ⟨List.nodup_nil, fun a m => absurd m List.not_mem_nil⟩ ⟨fun a o ha hm => ?_, fun a m => absurd m List.not_mem_nil, fun a m => ?_⟩
    · rw [ho _ _ _ hcall, ← hl]
      have := SL.nones (K := X.K) (H := H') (vs.map some)
      rw [List.length_map] at this
      exact this
    · have h1 : a ≠ x := fun e => by rw [e, nx] at ha; cases ha
      refine st a o (st0 a o ha fun m => absurd m List.not_mem_nil) fun m => ?_
      rcases List.mem_cons.mp m with e | m
      · exact absurd e h1
      · exact hm (by simpa [wset] using m)
    · rw [List.append_nil] at m
      rw [List.mem_singleton.mp m]
      exact .inr (.inr nx)
  have I2 := Inv.made (C := C) I
  rw [hx, hdx] at I2
  have r2 : Vals (V.ref x :: vs) (Value.ref x :: us') := .cons rfl rv
  refine wpAny_call (make_map (f := f) I.kIn M.makes M.init (beq_iff_eq.mp M.fn) ?_)
  rw [hx, hdx]
  refine codeAny_mono (F.run _ X.stack _ _ ⟨Value.ref x :: us, []⟩ (Value.ref x :: us') (V.ref x :: vs) _ E0 (hr.make C us []) (by
    have e : Code.guards (Code.builtin "type.__call__" { pos := Value.ref C :: us }) = [] := by rfl
    simp [Around.under, pushGuards, hg, e]) (I2.env0.make C us []) (hb _ _ I2.kIn) r2 hq) fun r s' hq' => ?_
  cases r with
  | error e => exact False.elim hq'
  | ok fl =>
    cases fl with
    | ret u =>
      obtain ⟨v, H', I3, rv, ev, q3⟩ := I2.after hq'
      subst ev
      exact ⟨rv, ⟨V.ref x, H', I3, rfl, q3⟩⟩
    | next => exact False.elim hq'
    | brk => exact False.elim hq'
    | cont => exact False.elim hq'
theorem dcall_pe (ok : XOk X tb cf c) {f : Str} {l : Ex} {sel : List Nat} {backs : List (Nat × Nat)} {xs : List Expr} {kws : List Keyword} {ks : List Str} {p pos : Pos} (hsh : (⟨f, xs.length, ks, sel⟩ : Shape) ∈ tb.shapes) (hgl : glB c.sc f = true) (hpn : plainNm f = true) (hn : kwNames kws = some ks)
    (hck : ckA tb c l (xs ++ kws.map (·.value)) = true) (nd : sel.Nodup) (hl : sel = [] ∨ ∀ q ∈ lendsOf l 0, q.2 ∈ sel) (hlt : ∀ j ∈ sel, j < xs.length + kws.length) (nb1 : (backs.map (·.1)).Nodup) (nb2 : (backs.map (·.2)).Nodup) (hb : backs = (lendsOf l 0).map fun q => (q.1, parOf sel q.2))
    (ia : PAK X xs kws (tIA X.K cf l)) (h1 : starEach xs X.env = xs.map fun x => (false, eval x X.env)) : PE X (.Call (.Name f p) xs kws pos) (tI X.K cf (.call f l sel backs)) := by
  have key : PE X (.Call (.Name f p) xs kws pos) (fun σ H Q => tIA X.K cf l σ H fun vs H1 => spD X.K (cf.call f) (selL vs sel) H1 Q E0) := by
    rcases (ok.calls _ hsh).ex with ⟨a, fd, ps, k, hm, hk, hr, F, hbind⟩ | ⟨C, g, fd, ps, hm, M, hks, ho, hF, hbind⟩
    rotate_left
    · refine call_pe (r := fun vs H Q => spD X.K (cf.call f) (selL vs sel) H Q E0) (gl_ok ok hgl) hm M.kp (plain_debug hpn) hn h1 ia fun pins s σ H vs us ws Q I rv l1 l2 h => ?_
      have hks' : ks = [] := hks
      subst hks'
      have hws : ws = [] := List.length_eq_zero_iff.mp l2
      subst hws
      rw [List.append_nil] at rv
      obtain ⟨as', fp', fz', r', outs', sl', dj', hcall', fin'⟩ := id h
      obtain ⟨k, hr, F⟩ := hF _ _ _ hcall'
      exact run_makeG M F hr ok.gd ho (fun s self hK => hbind s self us hK l1) I (vals_sel rv sel) h
    refine call_pe (r := fun vs H Q => spD X.K (cf.call f) (selL vs sel) H Q E0) (gl_ok ok hgl) hm hk (plain_debug hpn) hn h1 ia fun pins s σ H vs us ws Q I rv l1 l2 h => ?_
    exact run_fnG F hr ok.gd I (hbind s us ws I.kIn l1 l2) (vals_sel rv sel) h
  refine pe_imp key fun σ H Q ⟨ρ, fp, fz, d, ρ', s, dj, e, q⟩ => ?_
  simp only [ev] at e
  obtain ⟨as, ρ0, e0, ea⟩ := bind_inv e
  clear e
  split at ea
  · rename_i ys ρ1 hres
    split at ea
    · rename_i hbn
      split at ea
      · cases ea
      · rename_i v outs hcall
        cases ea
        refine ⟨ρ, fp, fz, as, ρ0, s, dj, e0, fun vs H1 f1 z1 f2 z2 al s1 d1 x1 n1 => ?_⟩
        obtain ⟨f3, z3, f4, z4, sa, ss, pf, pz, hno⟩ := resolve_ok al s1 hres
        obtain ⟨f5, z5, sb, lb⟩ := sel_ok sel nd sa
        have hqa : quiet (.call f l sel backs) = true → quiet l = true := fun h => (and_iff2 (by simpa only [quiet] using h)).1
        have d2 : Disj (f3 ++ f4) (z3 ++ z4) := d1.of pf.symm fun a m => pz.mem_iff.mp m
        have x2 : Ext (quiet (.call f l sel backs)) H fp fz H1 (f3 ++ f4) (z3 ++ z4) := (x1.weak hqa).perm pf.symm pz.symm
        have l2 := (Less.refl f4 z4).app lb
        have d3 : Disj (f4 ++ f5) (z4 ++ z5) := l2.disj (d2.of List.perm_append_comm fun a m => by simp only [List.mem_append] at m ⊢; exact m.symm)
        have x3 : Ext (quiet (.call f l sel backs)) H fp fz H1 (f4 ++ f5) (z4 ++ z5) := (x2.perm List.perm_append_comm List.perm_append_comm).less l2
        have t4 := ss.trk
        refine ⟨selL ys sel, f5, z5, d, outs, sb, d3.right, hcall, fun w H2 g1 y1 g2 y2 rw so d4 x4 => ?_⟩
        have ss' : SL X.K H2 σ ρ1 f4 z4 := SL.stay x4.stay ss d3.off1 d3.off2
        have dd : Disj (f4 ++ (g1 ++ g2)) (z4 ++ (y1 ++ y2)) := Ext.disj d3 t4.1 t4.2 x4 d4
        have xx0 : Ext false H fp fz H2 (f4 ++ (g1 ++ g2)) (z4 ++ (y1 ++ y2)) := Ext.trans (x3.weak fun h => nomatch h) x4
        have new5 : quiet (.call f l sel backs) = true → New H f5 := fun hq a m => by
          have hbe : backs = [] := List.isEmpty_iff.mp (and_iff2 (by simpa only [quiet] using hq)).2
          have hle : lendsOf l 0 = [] := by rw [hb] at hbe; exact List.map_eq_nil_iff.mp hbe
          have h31 := hno (evA_noln 0 e0 hle)
          exact n1 (hqa hq) a (h31 ▸ lb.fp a m)
        have xx : Ext (quiet (.call f l sel backs)) H fp fz H2 (f4 ++ (g1 ++ g2)) (z4 ++ (y1 ++ y2)) := by
          cases hq : quiet (.call f l sel backs) with
          | false => exact xx0
          | true =>
            have h5 := new5 hq
            rw [hq] at x3
            refine ⟨fun a o h _ => x4.stay a o (x3.stay a o h (fun m => absurd m List.not_mem_nil)) (fun m => ?_), xx0.fpx, xx0.fzx⟩
            have := h5 a (wset_sub a m)
            rw [h] at this; cases this
        have hbk : ∀ q ∈ backs, gt ρ1 q.1 = none ∧ gt outs q.2 = (outs[q.2]?).getD none ∧ ∃ w, σ[q.1]? = some (some w) ∧ (selL vs sel)[q.2]? = some w := fun q hq => by
          refine ⟨?_, gt_get _ _, ?_⟩
          · have := List.all_eq_true.mp hbn q hq
            simpa using this
          · rw [hb] at hq
            obtain ⟨q0, hq0, rfl⟩ := List.mem_map.mp hq
            obtain ⟨_, hq1⟩ := evA_lends 0 e0 q0 hq0
            obtain ⟨w, hw1, hw2⟩ := al_lend al q0.2 q0.1 (by simpa using hq1)
            refine ⟨w, hw2, sel_at nd (fun j hj => ?_) hw1 (hl.imp id fun h => h q0 hq0)⟩
            rw [al_len al, evA_len e0 hck]
            have := hlt j hj
            simpa using this
        obtain ⟨f6, z6, sf, lf⟩ := backs_ok backs ss' so nb1 nb2 hbk
        have perm : (f4 ++ (g1 ++ g2)).Perm (g1 ++ (g2 ++ f4)) := by
          refine List.perm_append_comm.trans ?_
          rw [List.append_assoc]
        have perz : (z4 ++ (y1 ++ y2)).Perm (y1 ++ (y2 ++ z4)) := by
          refine List.perm_append_comm.trans ?_
          rw [List.append_assoc]
        have l3 := (Less.refl g1 y1).app lf
        refine q w H2 g1 y1 f6 z6 rw sf (l3.disj (dd.of perm fun a m => perz.mem_iff.mpr m)) ((xx.perm perm perz).less l3) fun hq a m => ?_
        have h5 := new5 hq
        rw [hq] at x3
        rcases x4.fpx a (List.mem_append_left _ m) with h | h
        · exact h5 a h
        · exact x3.none h
      · cases ea
    · cases ea
  · cases ea
end
end Pi
/-! Pi12m: methods, the own != of instances, isinstance of own classes. -/
namespace Pi
open PySem L2
section
variable {X : Cx} {tb : Tb} {cf : Cf} {c : CkC}
theorem star_hd {x : Expr} {xs : List Expr} {env : PySem.Env} (h : starEach (x :: xs) env = (x :: xs).map fun x => (false, eval x env)) : starEach (x :: xs) env = (false, eval x env) :: starEach xs env ∧ starEach xs env = xs.map fun x => (false, eval x env) := by
  cases x with
  | Starred y q =>
    have h3 : starEach (Expr.Starred y q :: xs) env = (true, eval y env) :: starEach xs env := rfl
    rw [h3] at h
    injection h with h4 _
    injection h4 with h5 _
    cases h5
  | _ => exact ⟨rfl, (List.cons.inj h).2⟩
theorem methG_pe {o : Expr} {es : List Expr} {to : TE} {t : TA} {apos cpos : Pos} {C f : Addr} {m : Str} {k : Nat} {fd : FuncData} {ps : List Str} {sp : Sp} (ho : PE X o to) (ha : PA X es t) (cl : Cls X.K C) (hm : Meth X.K C m f) (F : FnG X.prog X.w X.K X.mg X.base k f fd ps sp) (hr : Room k X.A) (hg : X.A.guards = some [])
    (hb : ∀ (s : Shared) (us : List Value), X.K.In s.heap → us.length = es.length + 1 → BindsTo s fd ⟨us, []⟩ (ps.zip us)) (hnc : ∀ f a k p, o ≠ .Call f a k p) (hline : (apos.endLine == cpos.line) = true) (h1 : starEach es X.env = es.map fun x => (false, eval x X.env)) (hl : es.length < 20) :
    PE X (.Call (.Attribute o m apos) es [] cpos) (fun σ H Q => to σ H fun x H1 => ∃ a dx fs, x = .ref a ∧ H1 a = some (.ins C dx fs) ∧ fs.lookup m = none ∧ t σ H1 fun vs H2 => vs.length = es.length ∧ sp (x :: vs) H2 Q E0) := by
  refine ⟨fun pins s σ H Q I h => ?_⟩
  have hfew : ((backTo cpos (starEach es X.env)).all (fun x => !x.1) && (backToKw cpos (keywordEach [] X.env)).all (fun x => x.1.isSome)
      && decide (es.length + ([] : List Keyword).length + (if ([] : List Keyword).isEmpty then 0 else 1) < 30)) = true := by
    rw [h1]
    simp only [backTo, List.map_map, List.all_map, Function.comp_def, Bool.not_false, List.all_eq_true, implies_true, Bool.and_eq_true, decide_eq_true_eq]
    exact ⟨⟨by simp, by simp [keywordEach, backToKw]⟩, by simp; omega⟩
  have hform : methodCallForm (es.length + ([] : List Keyword).length) (backTo cpos (starEach es X.env)) (backToKw cpos (keywordEach [] X.env)) = true := hfew
  have hpos : methodCallPos true o X.env apos cpos = pure cpos := by unfold methodCallPos; simp [hline]
  rw [arm_eval_Call, attr_base hnc]
  refine wpAny_bind (wpAny_mono (ho.run pins s σ H _ I h) (fun ov s1 hx => ?_) fun _ _ e => e)
  obtain ⟨x, H1, I1, rx, a, dx, fs, ex, ea, l, q⟩ := hx
  subst ex
  obtain rfl : ov = .ref a := rx
  refine wpAny_bind (wpAny_standAt ?_)
  unfold methodCall
  rw [hform]
  refine wpAny_bind (wpAny_holding ?_)
  show wpAny _ _ (getMethod (.ref a) m _) _ _ _
  refine getmeth_ok I1 ea cl hm l ?_
  refine wpAny_bind (wpAny_of_eq hpos ?_)
  have hA := ha.run cpos pins s1 σ H1 _ I1 q
  cases es with
  | nil =>
    have hA' : wpAny (model X.prog X.w) X.A (spliced []) (AP X pins σ (fun vs H2 => vs.length = ([] : List Expr).length ∧ sp (V.ref a :: vs) H2 Q E0)) X.xe s1 := hA
    have hB : wpAny (model X.prog X.w) X.A (pure ([] : List Value)) (AP X pins σ (fun vs H2 => vs.length = ([] : List Expr).length ∧ sp (V.ref a :: vs) H2 Q E0)) X.xe s1 := hA'
    refine PySem.W.callWith_K0 (first := [.ref a]) I1.kIn hm.kp ?_
    intro Γ p hΓ
    obtain ⟨vs, H2, I2, r2, q2, q3⟩ := hB Γ p hΓ
    exact run_fnG (ks := []) (ws := []) (us := [.ref a]) (bs := [.ref a]) (vs := V.ref a :: vs) F hr hg I2 (hb _ _ I2.kIn rfl) (.cons rfl r2) q3 Γ p hΓ
  | cons e es =>
    obtain ⟨hs, hs2⟩ := star_hd h1
    have hpl : (backTo cpos (starEach es X.env)).any (·.1) = false := back_any hs2
    refine PySem.W.callWith_K (first := [.ref a]) (h₀ := X.base) I1.ok.mod.kin hm.kp (thn hA fun us s2 ⟨vs, H2, I2, r2, q2, q3⟩ => ⟨I2.kIn, ?_⟩) hs hpl
    have hlen := r2.length
    exact run_fnG (ks := []) (ws := []) (us := .ref a :: us) (bs := .ref a :: us) (vs := V.ref a :: vs) F hr hg I2 (hb _ _ I2.kIn (by rw [List.length_cons, ← hlen, q2])) (.cons rfl r2) q3
theorem repL_sl {K : PySem.W.Frag} {H : Hp} : ∀ {xs : List Sl} {vs : List V} {z : List Addr}, RepL K H (demL xs) 0 vs [] z → SL K H (vs.map some) ((xs.map fun y => ((y.1, 0) : Sl)).map some) [] z
  | [], vs, z, r => by
    simp only [demL, List.map_nil, RepL] at r
    obtain ⟨rfl, _, rfl⟩ := r
    exact ⟨rfl, rfl⟩
  | x :: xs, vs, z, r => by
    simp only [demL, List.map_cons, RepL] at r
    obtain ⟨v, vs', f1, f2, z1, z2, rfl, hf, rfl, r1, r2⟩ := r
    have hf1 : f1 = [] ∧ f2 = [] := by
      have := hf.symm
      simpa using this
    obtain ⟨rfl, rfl⟩ := hf1
    exact ⟨v, [], [], z1, z2, rfl, rfl, rfl, r1, repL_sl r2⟩
theorem repL_len {K : PySem.W.Frag} {H : Hp} : ∀ {ds : List D} {n : Nat} {vs : List V} {f z : List Addr}, RepL K H ds n vs f z → vs.length = ds.length
  | [], n, vs, f, z, r => by
    simp only [RepL] at r
    rw [r.1]; rfl
  | d :: ds, n, vs, f, z, r => by
    simp only [RepL] at r
    obtain ⟨v, vs', f1, f2, z1, z2, rfl, _, _, _, r2⟩ := r
    rw [List.length_cons, List.length_cons, repL_len r2]
theorem valsA_len : ∀ {as : List Ar} {xs : List Sl}, valsA as = some xs → xs.length = as.length
  | [], xs, h => by cases h; rfl
  | .val x :: as, xs, h => by
    simp only [valsA, Option.map_eq_some_iff] at h
    obtain ⟨ys, h, rfl⟩ := h
    rw [List.length_cons, List.length_cons, valsA_len h]
  | .ln i :: as, xs, h => by simp [valsA] at h
/-- a call whose arguments are frozen -/
theorem spd_frz {K : PySem.W.Frag} {call : List Sl → Cr} {σ : St} {H H2 : Hp} {fp fz f3 z4 zx : List Addr} {ρ2 : Env} {q : Bool} {xs : List Sl} {vs : List V} {v : Sl} {outs : List (Option Sl)} {Q : VK} (sl : SL K H2 (vs.map some) (xs.map some) [] zx) (s3 : SL K H2 σ ρ2 f3 z4) (dj : Disj f3 (zx ++ z4)) (x4 : Ext q H fp fz H2 f3 (zx ++ z4)) (hcall : call xs = .ok v outs)
    (p : PostE q K σ H fp fz v ρ2 Q) : spD K call vs H2 Q E0 := by
  have t3 := s3.trk
  refine ⟨xs, [], zx, v, outs, sl, ⟨List.nodup_nil, fun a m => absurd m List.not_mem_nil⟩, hcall, fun w H3 g1 y1 g2 y2 rw so d5 x5 => ?_⟩
  have d4 : Disj (f3 ++ []) (z4 ++ zx) := dj.of (by simp) fun a m => by simp only [List.mem_append] at m ⊢; exact m.symm
  have x4' : Ext q H fp fz H2 (f3 ++ []) (z4 ++ zx) := x4.to (fun a m => by simpa using m) fun a m => .inr (by simp only [List.mem_append] at m ⊢; exact m.symm)
  have x5' : Ext q H2 [] zx H3 (g1 ++ g2) (y1 ++ y2) := ⟨x5.stay.mono fun a m => by cases q <;> exact absurd m List.not_mem_nil, x5.fpx, x5.fzx⟩
  have dd := Ext.disj d4 t3.1 t3.2 x5 d5
  have xx := Ext.trans x4' x5'
  have s4 : SL K H3 σ ρ2 f3 z4 := SL.stay x5.stay s3 (fun a _ m => absurd m List.not_mem_nil) (fun a _ m => absurd m List.not_mem_nil)
  refine p w H3 g1 y1 f3 z4 rw s4 (dd.part (f2 := g2) ?_ ?_) (xx.to ?_ ?_) ?_
  · rw [← List.append_assoc]
    exact List.Perm.append_right g2 List.perm_append_comm
  · intro a m
    simp only [List.mem_append] at m ⊢
    rcases m with m | m
    · exact .inl (.inr (.inl m))
    · exact .inl (.inl m)
  · intro a m
    simp only [List.mem_append] at m ⊢
    rcases m with m | m
    · exact .inr (.inl m)
    · exact .inl m
  · intro a m
    simp only [List.mem_append] at m ⊢
    rcases m with m | m
    · exact .inr (.inr (.inl m))
    · exact .inr (.inl m)
  · rintro rfl a m
    rcases x5.fpx a (List.mem_append_left _ m) with h | h
    · exact absurd h List.not_mem_nil
    · exact x4.none h
theorem mcall_pe (ok : XOk X tb cf c) {ms : MShape} {o l : Ex} {xo : Expr} {xs : List Expr} {apos cpos : Pos} (hms : ms ∈ tb.meths) (hnp : ms.np = xs.length) (io : PE X xo (tI X.K cf o)) (il : PA X xs (tIA X.K cf l)) (hck : ckA tb c l xs = true) (hnc : ∀ f a k p, xo ≠ .Call f a k p) (hline : (apos.endLine == cpos.line) = true) (h1 : starEach xs X.env = xs.map fun x => (false, eval x X.env)) (hl : xs.length < 20) :
    PE X (.Call (.Attribute xo ms.m apos) xs [] cpos) (tI X.K cf (.mcall ms.f o l)) := by
  obtain ⟨C, a, fd, ps, k, hin, hcl, hm, hr, _, F, hb, hprop⟩ := (ok.mcalls ms hms).ex
  refine pe_imp (methG_pe io il hcl hm F hr ok.gd (fun s us hK hu => hb s us hK (by rw [hnp]; exact hu)) hnc hline h1 hl) fun σ H Q ⟨ρ, fp, fz, d, ρ', s, dj, e, p⟩ => ?_
  simp only [ev] at e
  obtain ⟨x, ρ1, e1, ea⟩ := bind_inv e
  obtain ⟨ys, ρ2, e2, eb⟩ := bind_inv ea
  obtain ⟨as, ρ0, e0, ec⟩ := bind_inv e2
  clear e ea e2
  obtain ⟨hv, rfl⟩ := of_inv ec
  split at eb
  · rename_i v outs hcall
    cases eb
    obtain ⟨fs, n, rest, hargs, hlk⟩ := hprop _ _ _ hcall
    have hq : quiet (.mcall ms.f o l) = true → quiet o = true ∧ quiet l = true := fun h => and_iff2 (by simpa only [quiet] using h)
    refine step1 (q := quiet (.mcall ms.f o l)) s dj e1 (fun h => (hq h).1) fun v1 H1 z1 f2 z2 r1 s2 d2 x2 => ?_
    injection hargs with ha1 ha2
    injection ha1 with ha3 _
    have r1' := r1
    rw [ha3] at r1'
    simp only [Rep] at r1'
    obtain ⟨b, C', dx, vsf, rfl, _, hz1, hH1, io'⟩ := r1'
    have hCC : C' = C := by
      have := io'.at_.symm.trans hin
      simpa using this
    subst hCC
    have d2' : Disj ([] ++ f2) (z1 ++ z2) := d2
    have x2' : Ext (quiet (.mcall ms.f o l)) H fp fz H1 ([] ++ f2) (z1 ++ z2) := x2
    have t1 := r1.trk
    refine ⟨b, dx, vsf, rfl, hH1, io'.no _ hlk, stepA (q := quiet (.mcall ms.f o l)) s2 d2'.right e0 hv (fun h => (hq h).2) fun vs H2 z3 f3 z4 rl s3 d3 x3 => ⟨?_, ?_⟩⟩
    · have h4 := repL_len rl
      unfold demL at h4
      rw [List.length_map, valsA_len hv, evA_len e0 hck] at h4
      exact h4
    · have r2 := Rep.stay x3.stay _ _ _ _ _ r1 (fun _ m => absurd m List.not_mem_nil) d2'.off2
      have d4 := Ext.disj d2' (Trk.nil _) t1.2 x3 d3
      have x4 := Ext.trans x2' x3
      rw [← List.append_assoc] at d4 x4
      have sl : SL X.K H2 ((V.ref b :: vs).map some) ((((x.1, 0) : Sl) :: ys.map fun y => ((y.1, 0) : Sl)).map some) [] (z1 ++ z3) := ⟨V.ref b, [], [], z1, z3, rfl, rfl, rfl, r2, repL_sl rl⟩
      exact spd_frz sl s3 d4 x4 hcall p
  · cases eb
theorem isc_pe (ok : XOk X tb cf c) {a : Ex} {y : Str} {xa : Expr} {p p2 pos : Pos} (hb : ckBlt tb c "isinstance" = true) (hpn : plainNm y = true) (hgl : glB c.sc y = true) (hy : y ∈ tb.iscs) (ia : PE X xa (tI X.K cf a)) (hs : ∀ es, starEach (xa :: es) X.env = (false, eval xa X.env) :: starEach es X.env) :
    PE X (.Call (.Name "isinstance" p) [xa, .Name y p2] [] pos) (tI X.K cf (.isc y a)) := by
  obtain ⟨hm, hg, hn, hdb⟩ := ckBlt_ok ok hb
  obtain ⟨C, hmC, hin, hic⟩ := ok.iscs y hy
  have hty : PE X (.Name y p2) (tC (.ref C)) := pe_glob (gl_ok ok hgl) hmC rfl (plain_debug hpn)
  have es1 : starEach [Expr.Name y p2] X.env = [(false, eval (Expr.Name y p2) X.env)] := rfl
  have key := pe_callB (p := p) (pos := pos) (C8.call_isC hic) hg hm (by decide +kernel) (pa_cons ia (pa_cons hty pa_nil rfl) (hs _)) hn hdb (hs _) (by rw [es1]; rfl)
  refine pe_imp key fun σ H Q ⟨ρ, fp, fz, d, ρ', s, dj, e, q⟩ => ?_
  simp only [ev] at e
  obtain ⟨x, ρ1, e1, ea⟩ := bind_inv e
  clear e
  split at ea
  · rename_i c' fs hx
    split at ea
    · rename_i hc
      cases ea
      subst hc
      refine step1 (q := quiet (.isc c' a)) s dj e1 (fun h => by simpa only [quiet] using h) fun v H1 z1 f2 z2 r s2 d2 x2 => ?_
      rw [hx] at r
      simp only [Rep] at r
      obtain ⟨b, C', dx, vsf, rfl, _, _, hH1, io'⟩ := r
      have hCC : C' = C := by
        have := io'.at_.symm.trans hin
        simpa using this
      subst hCC
      exact ⟨b, dx, vsf, rfl, hH1, cmp_post s2 d2 x2 q⟩
    · cases ea
  · cases ea
end
end Pi
/-! Pi12n: != of instances with an own __eq__. -/
namespace Pi
open PySem L2
section
variable {X : Cx} {tb : Tb} {cf : Cf} {c : CkC}
theorem ifBound_objNe {M : Model} {A : Around} {E : Value → Shared → Prop} {s : Shared} {K : PySem.W.Frag} {x C : Addr} {ox : Obj} {od : Option Obj} {args : List Value} {Q : Option Value → Shared → Prop} (X : K.In s.heap) (I : PySem.W.InstAt s.heap x ox C od) (hs : PySem.W.findIn K (.ref C) "__ne__" = some (some (.builtin "object.__ne__")))
    (h : wpAny M A (call (.builtin "object.__ne__") (.ref x :: args)) (fun v => Q (some v)) E s) : wpAny M A (callSpecialIfBound? (.ref x) "__ne__" args) Q E s := by
  simp only [callSpecialIfBound?, bindSpecialIfBound?]
  refine wpAny_holding (wpAny_bind (wpAny_bind (wpAny_bind (I.type.here ((PySem.W.looks_findIn X hs).here ?_)))))
  refine wpAny_bind (wpAny_askSetting (wpAny_ite ?_))
  have fin : wpAny M A (call (.builtin "object.__ne__") ([.ref x] ++ args) >>= fun v => pure (some v)) Q E s := wpAny_bind (wpAny_mono h (fun v s' h' => wpAny_pure h') fun _ _ h' => h')
  split
  · exact wpAny_bind (wpAny_of_eq (F.cmp_object.ne.bind _) (wpAny_pure (by exact fin)))
  · exact wpAny_tryCatch (wpAny_bind (wpAny_of_eq (F.cmp_object.ne.bind _) (wpAny_pure (by exact fin))))
theorem op_neG {C f : Addr} {k : Nat} {fd : FuncData} {ps : List Str} {sp : Sp} (FF : FnG X.prog X.w X.K X.mg X.base k f fd ps sp) (hr1 : Room k X.A.in1) (hg : X.A.guards = some []) (hu : X.A.units + 1 < cLine) (hs : PySem.W.findIn X.K (.ref C) "__eq__" = some (some (.ref f))) (hf : PySem.W.isFn X.K (.ref f) = true)
    (hne : PySem.W.findIn X.K (.ref C) "__ne__" = some (some (.builtin "object.__ne__"))) (hmro : PySem.W.mroIn X.K C (.type "object") = some true) (hb : ∀ (s : Shared) (us : List Value), X.K.In s.heap → us.length = 2 → BindsTo s fd ⟨us, []⟩ (ps.zip us)) :
    OpR X (compareOp .NotEq) (fun x y H Q => ∃ a b dx dy fs gs, x = .ref a ∧ y = .ref b ∧ H a = some (.ins C dx fs) ∧ H b = some (.ins C dy gs) ∧ sp [x, y] H (fun v H' => ∃ r, v = .bl r ∧ Q (.bl (!r)) H') E0) := by
  intro pins s σ H x y v u Q I rx ry hq
  obtain ⟨a, b, dx, dy, fs, gs, rfl, rfl, ha, hb', hsp⟩ := hq
  cases rx
  cases ry
  obtain ⟨mA, J, _⟩ := ins_get I.hok ha
  obtain ⟨mB, J', _⟩ := ins_get I.hok hb'
  obtain ⟨od, J, _⟩ := J.look
  obtain ⟨od', J', _⟩ := J'.look
  have X0 := I.kIn
  have run : wpAny (model X.prog X.w) X.A.in1 (call (.ref f) [.ref a, .ref b]) (fun v s' => ∃ r, v = .bool r ∧ EP X pins σ Q (.bool (!r)) s') X.xe s := by
    have e0 : Env0 X.prog X.w X.K X.mg X.base X.A.in1 X.stack s H := by
      have e := I.env0
      exact ⟨e.frames, e.mod, e.bs, e.bsz, e.funs, e.frf, e.hok, e.bare⟩
    have r2 : Vals [V.ref a, V.ref b] [Value.ref a, Value.ref b] := .cons rfl (.cons rfl .nil)
    refine wpAny_call (codeAny_mono (FF.run X.A.in1 X.stack s H ⟨[.ref a, .ref b], []⟩ [.ref a, .ref b] [.ref a, .ref b] _ E0 hr1 hg e0 (hb _ _ X0 rfl) r2 hsp) fun r s' hq' => ?_)
    cases r with
    | error e => exact False.elim hq'
    | ok fl =>
      cases fl with
      | ret w =>
        obtain ⟨z, H', I', rz, r, ez, q⟩ := I.after hq'
        subst ez
        cases rz
        exact ⟨r, rfl, .bl (!r), H', I', rfl, q⟩
      | next => exact False.elim hq'
      | brk => exact False.elim hq'
      | cont => exact False.elim hq'
  have entry : wpAny (model X.prog X.w) X.A.in1 (Builtin.«object.__ne__» ⟨[.ref a, .ref b], []⟩) (fun fin s' => ∃ r, fin = .done (.ret (.bool r)) ∧ EP X pins σ Q (.bool r) s') X.xe s := by
    unfold Builtin.«object.__ne__»
    repeat (first | with_reducible refine wpAny_cRoomFor hu ?_ | with_reducible refine PySem.W.ifBound_K X0 J hs hf (wpAny_mono run (fun v s' hv => ?_) fun _ _ e => e) | wp_step)
    obtain ⟨r, rfl, hq⟩ := hv
    exact wpAny_bind (wpAny_truthy_bool (wpAny_pure ⟨!r, rfl, hq⟩))
  have called : wpAny (model X.prog X.w) X.A (call (.builtin "object.__ne__") [.ref a, .ref b]) (fun v s' => ∃ r, v = .bool r ∧ EP X pins σ Q (.bool r) s') X.xe s :=
    wpAny_call (codeAny_call_builtin F.cmp_object.ne.plain F.cmpEntry_ne (PySem.W.check_slot F.cmpKind_ne F.cmpSplit_ne (J.type.andThen (PySem.W.looks_mroIn X0 hmro)) (F.cmpArgs_ne _ _)
      (wpAny_mono entry (fun fin s' hf => by
        obtain ⟨r, rfl, q⟩ := hf
        exact ⟨r, rfl, q⟩) fun _ _ e => e)))
  have one : wpAny (model X.prog X.w) X.A (tryCompare (.ref a) "__ne__" (.ref b)) (fun r s' => ∃ v, r = some v ∧ EP X pins σ Q v s') X.xe s := by
    unfold tryCompare
    refine wpAny_bind (ifBound_objNe X0 J hne (wpAny_mono called (fun v s' hv => ?_) fun _ _ e => e))
    obtain ⟨r, rfl, q⟩ := hv
    exact wpAny_pure ⟨_, rfl, q⟩
  show wpAny (model X.prog X.w) X.A (richCompare .NotEq (.ref a) (.ref b)) (EP X pins σ Q) X.xe s
  have hu0 : X.A.units < cLine := by omega
  unfold richCompare
  simp only [oneThing_ref]
  refine wpAny_holding (wpAny_bind (wpAny_cRoomFor hu0 ?_))
  refine wpAny_bind (J.type.here (wpAny_bind (J'.type.here ?_)))
  split
  · rename_i q
    simp at q
  · refine wpAny_bind (wpAny_pure ?_)
    simp only [Bool.false_eq_true, if_false]
    refine wpAny_bind (wpAny_mono one (fun r s' z => ?_) fun _ _ e => e)
    obtain ⟨v, rfl, hq⟩ := z
    exact wpAny_pure hq
theorem neq_r (ok : XOk X tb cf c) {ms : MShape} (hms : ms ∈ tb.nes) : ∃ (C : Addr) (R : V → V → Hp → VK → Prop), PySem.W.nsIn X.K mainGlobals ms.c = some (some (.ref C)) ∧ OpR X (compareOp .NotEq) R ∧
    ∀ (x y : V) (H : Hp) (Q : VK), (∃ a b dx dy fs gs, x = .ref a ∧ y = .ref b ∧ H a = some (.ins C dx fs) ∧ H b = some (.ins C dy gs) ∧ spD X.K (cf.call ms.f) [x, y] H (fun v H' => ∃ r, v = .bl r ∧ Q (.bl (!r)) H') E0) → R x y H Q := by
  obtain ⟨⟨C, a, fd, ps, k, hin, hcl, hm, hr, hr1, F, hb, hprop⟩, hmm, hnp, C', hin', hne, hmro⟩ := ok.nes ms hms
  have hCC : C' = C := by
    have := hin'.symm.trans hin
    simpa using this
  subst hCC
  rw [hmm] at hm
  rw [hnp] at hb
  exact ⟨C', _, hin, op_neG F hr1 ok.gd (by have := ok.hu; omega) hm.at_ hm.fn hne hmro hb, fun x y H Q h => h⟩
theorem neqD_inv {call : Str → List Sl → Cr} {f : Str} {x y : D} {r : Bool} (h : neqD call f x y = some r) : ∃ c fs gs n outs, x = .ins c fs ∧ y = .ins c gs ∧ call f [(x, 0), (y, 0)] = .ok (.bl (!r), n) outs := by
  unfold neqD at h
  split at h
  · rename_i c1 fs c2 gs b n outs hc
    split at h
    · rename_i he
      subst he
      cases h
      exact ⟨c1, fs, gs, n, outs, rfl, rfl, by rw [Bool.not_not]; exact hc⟩
    · cases h
  · cases h
theorem neq_sp (ok : XOk X tb cf c) {ms : MShape} (hms : ms ∈ tb.nes) {C : Addr} (hin : PySem.W.nsIn X.K mainGlobals ms.c = some (some (.ref C))) {x y : D} {r : Bool} (h : neqD cf.call ms.f x y = some r) {σ : St} {H H2 : Hp} {fp fz f3 z3 z1 z2 : List Addr} {ρ2 : Env} {q : Bool} {v u : V} {Q : VK} (r1 : Rep X.K H2 x 0 v [] z1) (r2 : Rep X.K H2 y 0 u [] z2) (s3 : SL X.K H2 σ ρ2 f3 z3) (d3 : Disj f3 ((z1 ++ z2) ++ z3)) (x3 : Ext q H fp fz H2 f3 ((z1 ++ z2) ++ z3))
    (p : PostE q X.K σ H fp fz (.bl r, 0) ρ2 Q) : ∃ a b dx dy fs gs, v = .ref a ∧ u = .ref b ∧ H2 a = some (.ins C dx fs) ∧ H2 b = some (.ins C dy gs) ∧ spD X.K (cf.call ms.f) [v, u] H2 (fun v H' => ∃ r, v = .bl r ∧ Q (.bl (!r)) H') E0 := by
  obtain ⟨c1, fs, gs, n, outs, rfl, rfl, hcall⟩ := neqD_inv h
  obtain ⟨⟨C0, a0, fd, ps, k, hin0, hcl, hm, hr, hr1, F, hb, hprop⟩, hmm, hnp, hrest⟩ := ok.nes ms hms
  obtain ⟨fs', n', rest, hargs, hlk⟩ := hprop _ _ _ hcall
  have hc1 : c1 = ms.c := by
    injection hargs with h1 _
    injection h1 with h2 _
    injection h2
  have r1' := r1
  have r2' := r2
  simp only [Rep] at r1' r2'
  obtain ⟨a, C1, dx, vs, rfl, _, _, h1, io1⟩ := r1'
  obtain ⟨b, C2, dy, us, rfl, _, _, h2, io2⟩ := r2'
  have hC1 : C1 = C := by
    have := io1.at_.symm.trans (hc1 ▸ hin)
    simpa using this
  have hC2 : C2 = C := by
    have := io2.at_.symm.trans (hc1 ▸ hin)
    simpa using this
  subst hC1
  subst hC2
  refine ⟨a, b, dx, dy, vs, us, rfl, rfl, h1, h2, ?_⟩
  have sl : SL X.K H2 (([V.ref a, V.ref b] : List V).map some) (([(.ins c1 fs, 0), (.ins c1 gs, 0)] : List Sl).map some) [] (z1 ++ z2) := by
    refine ⟨V.ref a, [], [], z1, z2, rfl, rfl, rfl, r1, V.ref b, [], [], z2, [], rfl, rfl, by simp, r2, rfl, rfl⟩
  refine spd_frz (σ := σ) (ρ2 := ρ2) (q := q) (H := H) (fp := fp) (fz := fz) sl s3 d3 x3 hcall fun w H3 g1 y1 g2 y2 rw so d5 x5 nw => ?_
  have rw' := rw
  simp only [Rep] at rw'
  obtain ⟨rfl, rfl, rfl⟩ := rw'
  refine ⟨!r, rfl, ?_⟩
  rw [Bool.not_not]
  exact p (.bl r) H3 [] [] g2 y2 (by simp [Rep]) so d5 x5 nw
theorem neq_pe (ok : XOk X tb cf c) {ms : MShape} (hms : ms ∈ tb.nes) {a b : Ex} {xa xb : Expr} {pos : Pos} (ia : PE X xa (tI X.K cf a)) (ib : PE X xb (tI X.K cf b)) (hm : behindInMarks .NotEq xb = false) : PE X (.Compare xa [.NotEq] [xb] pos) (tI X.K cf (.neq ms.f a b)) := by
  obtain ⟨C, R, hin, hop, hR⟩ := neq_r ok hms
  refine pe_imp (pe_cmpR hop ia ib hm) fun σ H Q ⟨ρ, fp, fz, d, ρ', s, dj, e, p⟩ => ?_
  simp only [ev] at e
  obtain ⟨x, ρ1, e1, ea⟩ := bind_inv e
  obtain ⟨y, ρ2, e2, eb⟩ := bind_inv ea
  obtain ⟨w, ρ3, e3', ec⟩ := bind_inv eb
  obtain ⟨e3, rfl⟩ := of_inv e3'
  cases ec
  refine step2 (q := quiet (.neq ms.f a b)) s dj e1 e2 (fun h => and_iff2 (by simpa only [quiet] using h)) fun v u H2 z1 z2 f3 z3 r1 r2 s3 d3 x3 => ?_
  exact hR _ _ _ _ (neq_sp ok hms hin e3 r1 r2 s3 d3 x3 p)
theorem tneq_pt (ok : XOk X tb cf c) {ms : MShape} (hms : ms ∈ tb.nes) {a b : Ex} {xa xb : Expr} {pos : Pos} (ia : PE X xa (tI X.K cf a)) (ib : PE X xb (tI X.K cf b)) (hm : behindInMarks .NotEq xb = false) : PT X (.Compare xa [.NotEq] [xb] pos) (tIT X.K cf (.tneq ms.f a b)) := by
  obtain ⟨C, R, hin, hop, hR⟩ := neq_r ok hms
  refine pt_imp (pt_cmpR hop ia ib hm) fun σ H Q ⟨ρ, fp, fz, d, ρ', s, dj, e, p⟩ => ?_
  simp only [evT] at e
  obtain ⟨x, ρ1, e1, ea⟩ := bind_inv e
  obtain ⟨y, ρ2, e2, eb⟩ := bind_inv ea
  obtain ⟨e3, rfl⟩ := of_inv eb
  refine step2 (q := quiet (.tneq ms.f a b)) s dj e1 e2 (fun h => and_iff2 (by simpa only [quiet] using h)) fun v u H2 z1 z2 f3 z3 r1 r2 s3 d3 x3 => ?_
  refine hR _ _ _ _ (neq_sp (Q := fun x H' => ∃ k, x = V.bl k ∧ Q k H') ok hms hin e3 r1 r2 s3 d3 x3 fun w H3 g1 y1 g2 y2 rw so d5 x5 nw => ?_)
  have rw' := rw
  simp only [Rep] at rw'
  obtain ⟨rfl, rfl, rfl⟩ := rw'
  exact ⟨d, rfl, p H3 g2 y2 so d5 x5⟩
end
end Pi
/-! Pi13: methods that change a container. -/
namespace Pi
open PySem L2
theorem perm_cnt {l m : List Addr} (h : ∀ a, l.count a = m.count a) : l.Perm m := List.perm_iff_count.mpr h
theorem cnt_perm {l m : List Addr} (h : l.Perm m) (a : Addr) : l.count a = m.count a := h.count_eq a
theorem Less.by {fp fz fp' fz' : List Addr} (mv : List Addr) (h : ∀ a, fp'.count a + mv.count a = fp.count a) (hz : ∀ a ∈ fz', a ∈ fz ∨ a ∈ mv) : Less fp fz fp' fz' :=
  ⟨mv, perm_cnt fun a => by rw [List.count_append]; exact h a, hz⟩
theorem Less.trans {a1 b1 a2 b2 a3 b3 : List Addr} (l : Less a1 b1 a2 b2) (m : Less a2 b2 a3 b3) : Less a1 b1 a3 b3 := by
  obtain ⟨u, p, s⟩ := l
  obtain ⟨v, q, t⟩ := m
  refine .by (v ++ u) (fun a => ?_) fun a h => ?_
  · have := cnt_perm p a
    have := cnt_perm q a
    simp only [List.count_append] at *
    omega
  · rcases t a h with h | h
    · exact (s a h).imp id fun h => List.mem_append_right _ h
    · exact .inr (List.mem_append_left _ h)
theorem Less.perm {a b a' b' : List Addr} (p : a.Perm a') (q : b.Perm b') : Less a b a' b' := ⟨[], by simpa using p.symm, fun x m => .inl (q.mem_iff.mpr m)⟩
section
variable {K : PySem.W.Frag} {H H' : Hp}
theorem RepL.takeAt {n : Nat} : ∀ {ds : List D} {vs : List V} {f z : List Addr} (j : Nat) (y : D), RepL K H ds n vs f z → ds[j]? = some y →
    ∃ v fy zy f' z', vs[j]? = some v ∧ Rep K H y n v fy zy ∧ RepL K H (ds.eraseIdx j) n (vs.eraseIdx j) f' z' ∧ (fy ++ f').Perm f ∧ (zy ++ z').Perm z
  | [], vs, f, z, j, y, r, h => by simp at h
  | x :: ds, vs, f, z, 0, y, r, h => by
    simp only [RepL] at r
    obtain ⟨v, vs', g1, g2, y1, y2, rfl, rfl, rfl, r1, r2⟩ := r
    have hx : x = y := by simpa using h
    subst hx
    exact ⟨v, g1, y1, g2, y2, rfl, r1, by simpa using r2, .refl _, .refl _⟩
  | x :: ds, vs, f, z, j + 1, y, r, h => by
    simp only [RepL] at r
    obtain ⟨v, vs', g1, g2, y1, y2, rfl, rfl, rfl, r1, r2⟩ := r
    obtain ⟨w, fy, zy, f', z', a, b, c, p, q⟩ := RepL.takeAt j y r2 (by simpa using h)
    refine ⟨w, fy, zy, g1 ++ f', y1 ++ z', by simpa using a, b, ?_, perm_cnt fun x => ?_, perm_cnt fun x => ?_⟩
    · simp only [List.eraseIdx_cons_succ, RepL]
      exact ⟨v, _, g1, f', y1, z', rfl, rfl, rfl, r1, c⟩
    · have := cnt_perm p x
      simp only [List.count_append] at *
      omega
    · have := cnt_perm q x
      simp only [List.count_append] at *
      omega
theorem RepL.setAt {n : Nat} : ∀ {ds : List D} {vs : List V} {f z : List Addr} (j : Nat) {x : D} {v : V} {fx zx : List Addr}, RepL K H ds n vs f z → j < ds.length → Rep K H x n v fx zx →
    ∃ f' z', RepL K H (ds.set j x) n (vs.set j v) f' z' ∧ Less (fx ++ f) (zx ++ z) f' z'
  | [], vs, f, z, j, x, v, fx, zx, r, h, rx => by simp at h
  | y :: ds, vs, f, z, 0, x, v, fx, zx, r, h, rx => by
    simp only [RepL] at r
    obtain ⟨w, vs', g1, g2, y1, y2, rfl, rfl, rfl, r1, r2⟩ := r
    refine ⟨fx ++ g2, zx ++ y2, ?_, .by g1 (fun a => by simp only [List.count_append]; omega) fun a m => .inl ?_⟩
    · simp only [List.set_cons_zero, RepL]
      exact ⟨v, vs', fx, g2, zx, y2, rfl, rfl, rfl, rx, r2⟩
    · rcases List.mem_append.mp m with m | m <;> simp [m]
  | y :: ds, vs, f, z, j + 1, x, v, fx, zx, r, h, rx => by
    simp only [RepL] at r
    obtain ⟨w, vs', g1, g2, y1, y2, rfl, rfl, rfl, r1, r2⟩ := r
    obtain ⟨f', z', a, l⟩ := RepL.setAt j r2 (by simpa using h) rx
    obtain ⟨mv, p, s⟩ := l
    refine ⟨g1 ++ f', y1 ++ z', ?_, .by mv (fun a => ?_) fun a m => ?_⟩
    · simp only [List.set_cons_succ, RepL]
      exact ⟨w, _, g1, f', y1, z', rfl, rfl, rfl, r1, a⟩
    · have := cnt_perm p a
      simp only [List.count_append] at *
      omega
    · rcases List.mem_append.mp m with m | m
      · exact .inl (by simp [m])
      · rcases s a m with q | q
        · exact .inl (by rcases List.mem_append.mp q with q | q <;> simp [q])
        · exact .inr q
theorem RepK.put {n : Nat} : ∀ {l : List (Key × D)} {kvs : List (Key × V)} {f z : List Addr} (k : Key) {d : D} {v : V} {fv zv : List Addr}, RepK K H l n kvs f z → Rep K H d n v fv zv →
    ∃ f' z', RepK K H (putD l k d) n (putD kvs k v) f' z' ∧ Less (fv ++ f) (zv ++ z) f' z'
  | [], kvs, f, z, k, d, v, fv, zv, r, rv => by
    simp only [RepK] at r
    obtain ⟨rfl, rfl, rfl⟩ := r
    refine ⟨fv, zv, ?_, .perm (by simp) (by simp)⟩
    simp only [putD, RepK]
    exact ⟨v, [], fv, [], zv, [], rfl, by simp, by simp, rv, rfl, rfl, rfl⟩
  | (j, x) :: l, kvs, f, z, k, d, v, fv, zv, r, rv => by
    simp only [RepK] at r
    obtain ⟨w, vs', g1, g2, y1, y2, rfl, rfl, rfl, r1, r2⟩ := r
    by_cases hj : j = k
    · refine ⟨fv ++ g2, zv ++ y2, ?_, .by g1 (fun a => by simp only [List.count_append]; omega) fun a m => .inl ?_⟩
      · simp only [putD, if_pos hj, RepK]
        exact ⟨v, vs', fv, g2, zv, y2, rfl, rfl, rfl, rv, r2⟩
      · rcases List.mem_append.mp m with m | m <;> simp [m]
    · obtain ⟨f', z', a, mv, p, s⟩ := RepK.put k r2 rv
      refine ⟨g1 ++ f', y1 ++ z', ?_, .by mv (fun a => ?_) fun a m => ?_⟩
      · simp only [putD, if_neg hj, RepK]
        exact ⟨w, _, g1, f', y1, z', rfl, rfl, rfl, r1, a⟩
      · have := cnt_perm p a
        simp only [List.count_append] at *
        omega
      · rcases List.mem_append.mp m with m | m
        · exact .inl (by simp [m])
        · rcases s a m with q | q
          · exact .inl (by rcases List.mem_append.mp q with q | q <;> simp [q])
          · exact .inr q
theorem RepT.put {n : Nat} : ∀ {l : List (List Key × D)} {kvs : List (List Key × V)} {f z : List Addr} (k : List Key) {d : D} {v : V} {fv zv : List Addr}, RepT K H l n kvs f z → Rep K H d n v fv zv →
    ∃ f' z', RepT K H (putD l k d) n (putD kvs k v) f' z' ∧ Less (fv ++ f) (zv ++ z) f' z'
  | [], kvs, f, z, k, d, v, fv, zv, r, rv => by
    simp only [RepT] at r
    obtain ⟨rfl, rfl, rfl⟩ := r
    refine ⟨fv, zv, ?_, .perm (by simp) (by simp)⟩
    simp only [putD, RepT]
    exact ⟨v, [], fv, [], zv, [], rfl, by simp, by simp, rv, rfl, rfl, rfl⟩
  | (j, x) :: l, kvs, f, z, k, d, v, fv, zv, r, rv => by
    simp only [RepT] at r
    obtain ⟨w, vs', g1, g2, y1, y2, rfl, rfl, rfl, r1, r2⟩ := r
    by_cases hj : j = k
    · refine ⟨fv ++ g2, zv ++ y2, ?_, .by g1 (fun a => by simp only [List.count_append]; omega) fun a m => .inl ?_⟩
      · simp only [putD, if_pos hj, RepT]
        exact ⟨v, vs', fv, g2, zv, y2, rfl, rfl, rfl, rv, r2⟩
      · rcases List.mem_append.mp m with m | m <;> simp [m]
    · obtain ⟨f', z', a, mv, p, s⟩ := RepT.put k r2 rv
      refine ⟨g1 ++ f', y1 ++ z', ?_, .by mv (fun a => ?_) fun a m => ?_⟩
      · simp only [putD, if_neg hj, RepT]
        exact ⟨w, _, g1, f', y1, z', rfl, rfl, rfl, r1, a⟩
      · have := cnt_perm p a
        simp only [List.count_append] at *
        omega
      · rcases List.mem_append.mp m with m | m
        · exact .inl (by simp [m])
        · rcases s a m with q | q
          · exact .inl (by rcases List.mem_append.mp q with q | q <;> simp [q])
          · exact .inr q
/-- the value at a key, the rest beside it -/
theorem RepK.focus {n : Nat} : ∀ {l : List (Key × D)} {kvs : List (Key × V)} {f z : List Addr} (k : Key) {d : D}, RepK K H l n kvs f z → getK l k = some d →
    ∃ v fd zd f' z', valV kvs k = some v ∧ Rep K H d n v fd zd ∧ (fd ++ f').Perm f ∧ (zd ++ z').Perm z ∧
      ∀ (H' : Hp) (W : List Addr) (d' : D) (fd' zd' : List Addr), Stay W H H' → (∀ a ∈ f', a ∉ W) → (∀ a ∈ z', a ∉ W) → Rep K H' d' n v fd' zd' →
        ∃ f'' z'', RepK K H' (putD l k d') n kvs f'' z'' ∧ (fd' ++ f').Perm f'' ∧ (zd' ++ z').Perm z''
  | [], kvs, f, z, k, d, r, h => by simp [getK] at h
  | (j, x) :: l, kvs, f, z, k, d, r, h => by
    simp only [RepK] at r
    obtain ⟨w, vs', g1, g2, y1, y2, rfl, rfl, rfl, r1, r2⟩ := r
    by_cases hj : j = k
    · simp only [getK, if_pos hj, Option.some.injEq] at h
      subst h
      refine ⟨w, g1, y1, g2, y2, valV_pos hj, r1, .refl _, .refl _, fun H' W d' fd' zd' s h1 h2 r' => ⟨fd' ++ g2, zd' ++ y2, ?_, .refl _, .refl _⟩⟩
      simp only [putD, if_pos hj, RepK]
      exact ⟨w, vs', fd', g2, zd', y2, rfl, rfl, rfl, r', RepK.stay s _ _ _ _ _ r2 h1 h2⟩
    · simp only [getK, if_neg hj] at h
      obtain ⟨v, fd, zd, f', z', a, b, p, q, g⟩ := RepK.focus k r2 h
      refine ⟨v, fd, zd, g1 ++ f', y1 ++ z', by rw [valV_neg hj]; exact a, b, perm_cnt fun x => ?_, perm_cnt fun x => ?_, fun H' W d' fd' zd' s h1 h2 r' => ?_⟩
      · have := cnt_perm p x
        simp only [List.count_append] at *
        omega
      · have := cnt_perm q x
        simp only [List.count_append] at *
        omega
      · obtain ⟨f'', z'', c, p', q'⟩ := g H' W d' fd' zd' s (fun a m => h1 a (List.mem_append_right _ m)) (fun a m => h2 a (List.mem_append_right _ m)) r'
        refine ⟨g1 ++ f'', y1 ++ z'', ?_, perm_cnt fun x => ?_, perm_cnt fun x => ?_⟩
        · simp only [putD, if_neg hj, RepK]
          exact ⟨w, vs', g1, f'', y1, z'', rfl, rfl, rfl, Rep.stay s _ _ _ _ _ r1 (fun a m => h1 a (List.mem_append_left _ m)) (fun a m => h2 a (List.mem_append_left _ m)), c⟩
        · have := cnt_perm p' x
          simp only [List.count_append] at *
          omega
        · have := cnt_perm q' x
          simp only [List.count_append] at *
          omega
theorem RepK.app {n : Nat} : ∀ {l : List (Key × D)} {kvs : List (Key × V)} {f z : List Addr} (k : Key) {d : D} {v : V} {fv zv : List Addr}, RepK K H l n kvs f z → Rep K H d n v fv zv →
    RepK K H (l ++ [(k, d)]) n (kvs ++ [(k, v)]) (f ++ fv) (z ++ zv)
  | [], kvs, f, z, k, d, v, fv, zv, r, rv => by
    simp only [RepK] at r
    obtain ⟨rfl, rfl, rfl⟩ := r
    simp only [List.nil_append, RepK]
    exact ⟨v, [], fv, [], zv, [], rfl, by simp, by simp, rv, rfl, rfl, rfl⟩
  | (j, x) :: l, kvs, f, z, k, d, v, fv, zv, r, rv => by
    simp only [RepK] at r
    obtain ⟨w, vs', g1, g2, y1, y2, rfl, rfl, rfl, r1, r2⟩ := r
    simp only [List.cons_append, RepK]
    exact ⟨w, _, g1, g2 ++ fv, y1, y2 ++ zv, rfl, by simp, by simp, r1, RepK.app k r2 rv⟩
theorem stay_upd {p : Addr} {ob : HO} (W : List Addr) (h : H p ≠ none) (hm : Mut (H p)) : Stay (p :: W) H (upd H p ob) := by
  intro a o e n
  by_cases ha : a = p
  · subst ha
    exact absurd (by rw [e] at hm; exact hm) (n List.mem_cons_self)
  · rw [upd_ne ha]; exact e
theorem sl_nil {vs : List V} {f z : List Addr} (s : SL K H (vs.map some) (([] : List Sl).map some) f z) : vs = [] := by
  cases vs with
  | nil => rfl
  | cons v vs => exact s.elim
theorem sl_cons {vs : List V} {x : Sl} {xs : List Sl} {f z : List Addr} (s : SL K H (vs.map some) ((x :: xs).map some) f z) : ∃ v vs' f1 f2 z1 z2, vs = v :: vs' ∧ f = f1 ++ f2 ∧ z = z1 ++ z2 ∧ Rep K H x.1 x.2 v f1 z1 ∧ SL K H (vs'.map some) (xs.map some) f2 z2 := by
  cases vs with
  | nil => exact s.elim
  | cons v vs =>
    obtain ⟨w, f1, f2, z1, z2, e, e1, e2, r, s⟩ := s
    cases e
    exact ⟨v, vs, f1, f2, z1, z2, rfl, e1, e2, r, s⟩
theorem sl_nil2 {f z : List Addr} (s : SL K H (([] : List V).map some) (([] : List Sl).map some) f z) : f = [] ∧ z = [] := s
theorem sl_one {vs : List V} {x : Sl} {f z : List Addr} (s : SL K H (vs.map some) ([x].map some) f z) : ∃ v, vs = [v] ∧ Rep K H x.1 x.2 v f z := by
  obtain ⟨v, vs', f1, f2, z1, z2, rfl, rfl, rfl, r, s⟩ := sl_cons s
  obtain rfl := sl_nil s
  obtain ⟨rfl, rfl⟩ := sl_nil2 s
  exact ⟨v, rfl, by simpa using r⟩
theorem sl_two {vs : List V} {x y : Sl} {f z : List Addr} (s : SL K H (vs.map some) ([x, y].map some) f z) : ∃ v w f1 f2 z1 z2, vs = [v, w] ∧ f = f1 ++ f2 ∧ z = z1 ++ z2 ∧ Rep K H x.1 x.2 v f1 z1 ∧ Rep K H y.1 y.2 w f2 z2 := by
  obtain ⟨v, vs', f1, f2, z1, z2, rfl, rfl, rfl, r, s⟩ := sl_cons s
  obtain ⟨w, rfl, r2⟩ := sl_one s
  exact ⟨v, w, f1, f2, z1, z2, rfl, rfl, rfl, r, r2⟩
/-- owned containers -/
theorem Rep.ownL {l : List D} {n : Nat} {v : V} {f z : List Addr} (r : Rep K H (.lst l) (n + 1) v f z) : ∃ a vs g, v = .ref a ∧ H a = some (.lst vs) ∧ RepL K H l n vs g z ∧ f = a :: g := by
  simp only [Rep] at r
  obtain ⟨a, vs, g, y, e, r, q⟩ := r
  rcases q with ⟨h, _⟩ | ⟨_, q, e1, e2⟩
  · cases h
  · subst e2; exact ⟨a, vs, g, e, q, r, e1⟩
theorem Rep.ownK {l : List (Key × D)} {n : Nat} {v : V} {f z : List Addr} (r : Rep K H (.dk l) (n + 1) v f z) : ∃ a vs g, v = .ref a ∧ H a = some (.dK vs) ∧ RepK K H l n vs g z ∧ f = a :: g := by
  simp only [Rep] at r
  obtain ⟨a, vs, g, y, e, r, q⟩ := r
  rcases q with ⟨h, _⟩ | ⟨_, q, e1, e2⟩
  · cases h
  · subst e2; exact ⟨a, vs, g, e, q, r, e1⟩
theorem Rep.ownT {l : List (List Key × D)} {n : Nat} {v : V} {f z : List Addr} (r : Rep K H (.dt l) (n + 1) v f z) : ∃ a vs g, v = .ref a ∧ H a = some (.dT vs) ∧ RepT K H l n vs g z ∧ f = a :: g := by
  simp only [Rep] at r
  obtain ⟨a, vs, g, y, e, r, q⟩ := r
  rcases q with ⟨h, _⟩ | ⟨_, q, e1, e2⟩
  · cases h
  · subst e2; exact ⟨a, vs, g, e, q, r, e1⟩
theorem Rep.mkL {l : List D} {n : Nat} {a : Addr} {vs : List V} {g z : List Addr} (h : H a = some (.lst vs)) (r : RepL K H l n vs g z) : Rep K H (.lst l) (n + 1) (.ref a) (a :: g) z := by
  simp only [Rep]
  exact ⟨a, vs, g, z, rfl, r, .inr ⟨by simp, h, rfl, rfl⟩⟩
theorem Rep.mkK {l : List (Key × D)} {n : Nat} {a : Addr} {vs : List (Key × V)} {g z : List Addr} (h : H a = some (.dK vs)) (r : RepK K H l n vs g z) : Rep K H (.dk l) (n + 1) (.ref a) (a :: g) z := by
  simp only [Rep]
  exact ⟨a, vs, g, z, rfl, r, .inr ⟨by simp, h, rfl, rfl⟩⟩
theorem Rep.mkT {l : List (List Key × D)} {n : Nat} {a : Addr} {vs : List (List Key × V)} {g z : List Addr} (h : H a = some (.dT vs)) (r : RepT K H l n vs g z) : Rep K H (.dt l) (n + 1) (.ref a) (a :: g) z := by
  simp only [Rep]
  exact ⟨a, vs, g, z, rfl, r, .inr ⟨by simp, h, rfl, rfl⟩⟩
end
/-! ### the methods -/
section
variable {X : Cx} {tb : Tb} {cf : Cf} {c : CkC}
def rPopI : V → List V → Hp → VK → Prop := fun x vs H Q => ∃ l xs i k y, x = .ref l ∧ vs = [.int i] ∧ H l = some (.lst xs) ∧ ixN xs.length i = some k ∧ xs[k]? = some y ∧ Q y (upd H l (.lst (xs.eraseIdx k)))
theorem size_lt : sizeLine < 2 ^ 63 := by decide +kernel
theorem mt_popI : MtR X "list.pop" rPopI := by
  intro pins s σ H x xs v us Q I rx rv ⟨l, ys, i, k, y, e, e2, h, hk, hy, q⟩
  obtain ⟨h1, h2, h3, h4⟩ := ixN_seq hk
  have hz := (Inv.lstM I h).1
  have := size_lt
  exact mt_popAt pins s σ H x xs v us Q I rx rv ⟨l, ys, i, k, y, e, e2, h, by omega, by omega, h1, hy, q⟩
def rSd : V → List V → Hp → VK → Prop := fun x vs H Q => ∃ a kvs k d, x = .ref a ∧ vs = [kV k, d] ∧ H a = some (.dK kvs) ∧ ((∃ v, valV kvs k = some v ∧ Q v H) ∨ (valV kvs k = none ∧ kvs.length < sizeLine ∧ Q d (upd H a (.dK (kvs ++ [(k, d)])))))
theorem d_setd0 {pins : List (Addr × Obj)} {σ : St} {H : Hp} {s : Shared} {a : Addr} {u r : Value} {d v : V} {k : Key} {A : Around} {E : Value → Shared → Prop} {kvs : List (Key × V)} {Q : Value → Shared → Prop} (I : Inv X pins σ H s) (e : H a = some (.dK kvs)) (ry : RelV (kV k) u) (rd : RelV d r)
    (hv : valV kvs k = some v) (h1 : ∀ (w' : Value) (s' : Shared), Inv X pins σ H s' → RelV v w' → Q w' s') :
    wpAny (model X.prog X.w) A (call (.builtin "dict.setdefault") [.ref a, u, r]) Q E s := by
  obtain ⟨z, hd, vs, rel, dd⟩ := dk_of I.hok e
  have hz : vs.length ≤ sizeLine := by
    rw [← rel.length]
    exact z
  have q := rel.val k
  rw [hv] at q
  refine call_meetsIn PySem.F.slot_dict_setdefault dd.typeIs PySem.F.entry_dict_setdefault (PySem.F.args_dict_setdefault_3 _ _ _) (kt_meets_setdefault (mixKind X.prog X.w) a (kV_is ry) hd r) ⟨vs, dd, hz, fun w hw => ?_, fun hn => ?_⟩
  · rw [hw] at q
    exact h1 _ _ (I.tok _) q
  · rw [hn] at q
    exact (show False from q).elim
theorem mt_sd : MtR X "dict.setdefault" rSd := by
  intro pins s σ H x xs v us Q I rx rv ⟨a, kvs, k, d, e, e2, h, q⟩
  subst e e2
  obtain rfl : v = .ref a := rx
  obtain ⟨u, w, rfl, ru, rw'⟩ := vals2 rv
  rcases q with ⟨v0, hv, q⟩ | ⟨hv, hl, q⟩
  · exact d_setd0 I h ru rw' hv fun w' s' I' r' => ⟨_, H, I', r', q⟩
  · refine d_setd I h ru rw' hl (fun v e => by rw [hv] at e; cases e) fun _ w' s' I' r' => ⟨_, _, I', r', ?_⟩
    rw [putK_new _ hv]; exact q
def rMut : Mm → V → List V → Hp → VK → Prop
  | .append => rAppend
  | .pop => fun x vs H Q => rPop x vs H Q ∨ rPopI x vs H Q
  | .extend => rExtend
  | .setdefault => rSd
  | _ => fun _ _ _ _ => False
theorem mut_core {m : Mm} {d d' : D} {n : Nat} {v : Sl} {x : V} {f1 z1 : List Addr} {xs : List Sl} {vs : List V} {fa za : List Addr} {H : Hp} {Q : VK} (r : Rep X.K H d (n + 1) x f1 z1) (s : SL X.K H (vs.map some) (xs.map some) fa za) (dj : Disj (fa ++ f1) (za ++ z1)) (e : mutD m d (n + 1) xs = some (v, d'))
    (k : ∀ u H' fv zv f1' z1', Stay f1 H H' → Rep X.K H' v.1 v.2 u fv zv → Rep X.K H' d' (n + 1) x f1' z1' → Less (fa ++ f1) (za ++ z1) (fv ++ f1') (zv ++ z1') → Q u H') : rMut m x vs H Q := by
  unfold mutD at e
  split at e
  · -- append
    rename_i ys s0
    simp only [Nat.add_sub_cancel] at e
    split at e
    · rename_i hc
      simp only [Bool.and_eq_true, decide_eq_true_eq] at hc
      cases e
      obtain ⟨a, ws, g, rfl, hp, rl, rfl⟩ := r.ownL
      obtain ⟨w, rfl, rw0⟩ := sl_one s
      obtain ⟨fa', za', rw1, l1⟩ := Rep.hasd hc.2 rw0
      have st : Stay (a :: g) H (upd H a (.lst (ws ++ [w]))) := stay_upd g (by rw [hp]; simp) (by rw [hp]; exact trivial)
      have st' : Stay [a] H (upd H a (.lst (ws ++ [w]))) := stay_upd [] (by rw [hp]; simp) (by rw [hp]; exact trivial)
      have nd := List.nodup_append.mp dj.1
      have ng := List.nodup_cons.mp nd.2.1
      have rl' := RepL.stay st' _ _ _ _ _ rl (fun b m h => by rw [List.mem_singleton.mp h] at m; exact ng.1 m) (fun b m h => by rw [List.mem_singleton.mp h] at m; exact dj.2 a (by simp) (by simp [m]))
      have rw2 := Rep.stay st' _ _ _ _ _ rw1 (fun b m h => by rw [List.mem_singleton.mp h] at m; exact nd.2.2 a (l1.fp a m) a (by simp) rfl)
        (fun b m h => by
          rw [List.mem_singleton.mp h] at m
          rcases l1.fz a m with m | m
          · exact dj.2 a (by simp) (by simp [m])
          · exact nd.2.2 a m a (by simp) rfl)
      refine ⟨a, ws, w, rfl, rfl, hp, by rw [RepL.len rl]; exact hc.1, k .non _ [] [] (a :: (g ++ fa')) (z1 ++ za') st (by simp [Rep]) (Rep.mkL upd_same (RepL.app rl' ?_)) ?_⟩
      · simp only [RepL]
        exact ⟨w, [], fa', [], za', [], rfl, by simp, by simp, rw2, rfl, rfl, rfl⟩
      · obtain ⟨mv, p, sz⟩ := l1
        refine .by mv (fun b => ?_) fun b m => ?_
        · have := cnt_perm p b
          simp only [List.count_append, List.count_cons, List.count_nil, List.nil_append] at *
          omega
        · rcases List.mem_append.mp m with m | m
          · cases m
          · rcases List.mem_append.mp m with m | m
            · exact .inl (by simp [m])
            · exact (sz b m).imp (fun m => by simp [m]) id
    · cases e
  · -- pop()
    rename_i ys
    simp only [Option.map_eq_some_iff, Nat.add_sub_cancel] at e
    obtain ⟨y, hy, e⟩ := e
    cases e
    obtain ⟨a, ws, g, rfl, hp, rl, rfl⟩ := r.ownL
    obtain rfl := sl_nil s
    obtain ⟨rfl, rfl⟩ := sl_nil2 s
    obtain ⟨w, fy, zy, f', z', hw, ry, rl2, p, q⟩ := RepL.takeAt _ y rl hy
    have hl := RepL.len rl
    have st : Stay (a :: g) H (upd H a (.lst ws.dropLast)) := stay_upd g (by rw [hp]; simp) (by rw [hp]; exact trivial)
    have st' : Stay [a] H (upd H a (.lst ws.dropLast)) := stay_upd [] (by rw [hp]; simp) (by rw [hp]; exact trivial)
    have ng := List.nodup_cons.mp (by simpa using dj.1)
    have nz : a ∉ z1 := fun m => dj.2 a (by simp) (by simpa using m)
    have rl' := RepL.stay st' _ _ _ _ _ rl2 (fun b m h => by rw [List.mem_singleton.mp h] at m; exact ng.1 (p.mem_iff.mp (by simp [m]))) (fun b m h => by rw [List.mem_singleton.mp h] at m; exact nz (q.mem_iff.mp (by simp [m])))
    have ry' := Rep.stay st' _ _ _ _ _ ry (fun b m h => by rw [List.mem_singleton.mp h] at m; exact ng.1 (p.mem_iff.mp (by simp [m]))) (fun b m h => by rw [List.mem_singleton.mp h] at m; exact nz (q.mem_iff.mp (by simp [m])))
    refine .inl ⟨a, ws, w, rfl, rfl, hp, by rw [hl]; exact hw, k w _ fy zy (a :: f') z' st ry' (Rep.mkL upd_same ?_) ?_⟩
    · have e1 : ys.dropLast = ys.eraseIdx (ys.length - 1) := (List.eraseIdx_length_sub_one).symm
      have e2 : ws.dropLast = ws.eraseIdx (ys.length - 1) := by rw [← hl]; exact (List.eraseIdx_length_sub_one).symm
      rw [e1]; rw [e2] at rl' ⊢
      exact rl'
    · refine .by [] (fun b => ?_) fun b m => .inl ?_
      · have := cnt_perm p b
        simp only [List.count_append, List.count_cons, List.count_nil, List.nil_append] at *
        omega
      · simpa using q.mem_iff.mp m
  · -- pop(i)
    rename_i ys i k0
    split at e
    · rename_i j hj
      simp only [Option.map_eq_some_iff, Nat.add_sub_cancel] at e
      obtain ⟨y, hy, e⟩ := e
      cases e
      obtain ⟨a, ws, g, rfl, hp, rl, rfl⟩ := r.ownL
      obtain ⟨w0, rfl, r0⟩ := sl_one s
      have h0 := r0.toInt
      subst h0
      have hfz : fa = [] ∧ za = [] := by simp only [Rep] at r0; exact ⟨r0.2.1, r0.2.2⟩
      obtain ⟨rfl, rfl⟩ := hfz
      obtain ⟨w, fy, zy, f', z', hw, ry, rl2, p, q⟩ := RepL.takeAt _ y rl hy
      have hl := RepL.len rl
      have st : Stay (a :: g) H (upd H a (.lst (ws.eraseIdx j))) := stay_upd g (by rw [hp]; simp) (by rw [hp]; exact trivial)
      have st' : Stay [a] H (upd H a (.lst (ws.eraseIdx j))) := stay_upd [] (by rw [hp]; simp) (by rw [hp]; exact trivial)
      have ng := List.nodup_cons.mp (by simpa using dj.1)
      have nz : a ∉ z1 := fun m => dj.2 a (by simp) (by simpa using m)
      have rl' := RepL.stay st' _ _ _ _ _ rl2 (fun b m h => by rw [List.mem_singleton.mp h] at m; exact ng.1 (p.mem_iff.mp (by simp [m]))) (fun b m h => by rw [List.mem_singleton.mp h] at m; exact nz (q.mem_iff.mp (by simp [m])))
      have ry' := Rep.stay st' _ _ _ _ _ ry (fun b m h => by rw [List.mem_singleton.mp h] at m; exact ng.1 (p.mem_iff.mp (by simp [m]))) (fun b m h => by rw [List.mem_singleton.mp h] at m; exact nz (q.mem_iff.mp (by simp [m])))
      refine .inr ⟨a, ws, i, j, w, rfl, rfl, hp, by rw [hl]; exact hj, hw, k w _ fy zy (a :: f') z' st ry' (Rep.mkL upd_same rl') ?_⟩
      refine .by [] (fun b => ?_) fun b m => .inl ?_
      · have := cnt_perm p b
        simp only [List.count_append, List.count_cons, List.count_nil, List.nil_append] at *
        omega
      · simpa using q.mem_iff.mp m
    · cases e
  · -- extend
    rename_i ys zs k0
    split at e
    · rename_i hc
      cases e
      simp only [Bool.and_eq_true, decide_eq_true_eq, Bool.or_eq_true, beq_iff_eq] at hc
      obtain ⟨a, ws, g, rfl, hp, rl, rfl⟩ := r.ownL
      obtain ⟨w0, rfl, r0⟩ := sl_one s
      have h2 : ∃ b us fb zb, w0 = .ref b ∧ H b = some (.lst us) ∧ RepL X.K H zs n us fb zb ∧ Less fa za fb zb := by
        simp only [Rep] at r0
        obtain ⟨b, us, f, z, e, rq, q⟩ := r0
        have hq : H b = some (.lst us) ∧ Less fa za f z := by
          rcases q with ⟨_, q, e1, e2⟩ | ⟨_, q, e1, e2⟩
          · refine ⟨q, ?_⟩
            rw [e1, e2]
            exact .by [] (fun x => by simp) fun x m => .inl (by simp [m])
          · refine ⟨q, ?_⟩
            rw [e1, e2]
            exact .by [b] (fun x => by simp only [List.count_cons, List.count_nil]; omega) fun x m => .inl m
        have hk : ∃ fb zb, RepL X.K H zs n us fb zb ∧ Less f z fb zb := by
          rcases hc.2 with (h | h) | h
          · have hn : n = 0 := by omega
            subst hn
            exact RepL.less zs _ 0 us f z (by omega) rq
          · exact RepL.less zs _ n us f z (by omega) rq
          · obtain ⟨rfl, rfl, ri⟩ := RepL.imm zs _ n us f z h rq
            exact ⟨[], [], ri, .refl _ _⟩
        obtain ⟨fb, zb, rb, lb⟩ := hk
        exact ⟨b, us, fb, zb, e, hq.1, rb, hq.2.trans lb⟩
      obtain ⟨b, us, fb, zb, rfl, hb, rb, l1⟩ := h2
      have st : Stay (a :: g) H (upd H a (.lst (ws ++ us))) := stay_upd g (by rw [hp]; simp) (by rw [hp]; exact trivial)
      have st' : Stay [a] H (upd H a (.lst (ws ++ us))) := stay_upd [] (by rw [hp]; simp) (by rw [hp]; exact trivial)
      have nd := List.nodup_append.mp dj.1
      have ng := List.nodup_cons.mp nd.2.1
      have rl' := RepL.stay st' _ _ _ _ _ rl (fun b m h => by rw [List.mem_singleton.mp h] at m; exact ng.1 m) (fun b m h => by rw [List.mem_singleton.mp h] at m; exact dj.2 a (by simp) (by simp [m]))
      have rb' := RepL.stay st' _ _ _ _ _ rb (fun b m h => by rw [List.mem_singleton.mp h] at m; exact nd.2.2 a (l1.fp a m) a (by simp) rfl)
        (fun b m h => by
          rw [List.mem_singleton.mp h] at m
          rcases l1.fz a m with m | m
          · exact dj.2 a (by simp) (by simp [m])
          · exact nd.2.2 a m a (by simp) rfl)
      refine ⟨a, b, ws, us, rfl, rfl, hp, hb, by rw [RepL.len rl, RepL.len rb]; exact hc.1, k .non _ [] [] (a :: (g ++ fb)) (z1 ++ zb) st (by simp [Rep]) (Rep.mkL upd_same (RepL.app rl' rb')) ?_⟩
      obtain ⟨mv, p, sz⟩ := l1
      refine .by mv (fun b => ?_) fun b m => ?_
      · have := cnt_perm p b
        simp only [List.count_append, List.count_cons, List.count_nil, List.nil_append] at *
        omega
      · rcases List.mem_append.mp m with m | m
        · cases m
        · rcases List.mem_append.mp m with m | m
          · exact .inl (by simp [m])
          · exact (sz b m).imp (fun m => by simp [m]) id
    · cases e
  · -- setdefault
    rename_i kvs k0 n0 x0
    split at e
    · rename_i kk hk
      obtain ⟨a, ws, g, rfl, hp, rk, rfl⟩ := r.ownK
      obtain ⟨w1, w2, g1, g2, y1, y2, rfl, rfl, rfl, ra, rb⟩ := sl_two s
      obtain ⟨za', ra', _⟩ := ra.frz
      obtain rfl := key_rep ra' hk
      split at e
      · rename_i y hy
        split at e
        · rename_i hn
          have hn : n = 0 := by simpa using hn
          subst hn
          cases e
          have hg : g = [] := RepK.zero _ _ _ _ rk
          subst hg
          obtain ⟨v0, z', hv, rv, hz⟩ := RepK.at0 rk kk y hy
          refine ⟨a, ws, kk, w2, rfl, rfl, hp, .inl ⟨v0, hv, k v0 H [] z' [a] z1 (.refl _ _) rv (Rep.mkK hp rk) ?_⟩⟩
          refine .by (g1 ++ g2) (fun b => by simp only [List.count_append, List.nil_append]; omega) fun b m => .inl ?_
          rcases List.mem_append.mp m with m | m
          · simp [hz b m]
          · simp [m]
        · cases e
      · rename_i hy
        split at e
        · rename_i hc
          simp only [Bool.and_eq_true, decide_eq_true_eq] at hc
          cases e
          obtain ⟨rfl, rfl, rb'⟩ := Rep.imm _ _ n _ _ _ hc.2 rb
          have hv : valV ws kk = none := by
            rcases RepK.val rk kk with ⟨_, b⟩ | ⟨d, v, a, _⟩
            · exact b
            · rw [hy] at a; cases a
          have st : Stay (a :: g) H (upd H a (.dK (ws ++ [(kk, w2)]))) := stay_upd g (by rw [hp]; simp) (by rw [hp]; exact trivial)
          have st' : Stay [a] H (upd H a (.dK (ws ++ [(kk, w2)]))) := stay_upd [] (by rw [hp]; simp) (by rw [hp]; exact trivial)
          have nd := List.nodup_append.mp dj.1
          have ng := List.nodup_cons.mp nd.2.1
          have rk' := RepK.stay st' _ _ _ _ _ rk (fun b m h => by rw [List.mem_singleton.mp h] at m; exact ng.1 m) (fun b m h => by rw [List.mem_singleton.mp h] at m; exact dj.2 a (by simp) (by simp [m]))
          have rb2 := Rep.stay st' _ _ _ _ _ rb' (by simp) (by simp)
          obtain ⟨_, _, rb3⟩ := Rep.imm _ _ 0 _ _ _ hc.2 rb2
          refine ⟨a, ws, kk, w2, rfl, rfl, hp, .inr ⟨hv, by rw [RepK.len rk]; exact hc.1, k w2 _ [] [] (a :: (g ++ [])) (z1 ++ []) st rb3 (Rep.mkK upd_same (RepK.app kk rk' rb2)) ?_⟩⟩
          refine .by g1 (fun b => by simp only [List.count_append, List.count_cons, List.count_nil, List.nil_append, List.append_nil]; omega) fun b m => .inl ?_
          simp only [List.nil_append, List.append_nil] at m
          simp [m]
        · cases e
    · cases e
  · cases e
end
end Pi
/-! Pi14: o.append(..) and the like. -/
namespace Pi
open PySem L2
section
variable {K : PySem.W.Frag} {cf : Cf} {σ : St} {H H1 H2 : Hp} {ρ ρ1 : Env} {fp fz : List Addr}
theorem Ext.mut {F1 Z1 F2 Z2 W : List Addr} (x : Ext false H fp fz H1 F1 Z1) (s : Stay W H1 H2) (hW : ∀ a ∈ W, a ∈ F1) (l : Less F1 Z1 F2 Z2) : Ext false H fp fz H2 F2 Z2 := by
  have y : Ext false H fp fz H2 F1 Z1 := by
    refine ⟨fun a o h n => ?_, x.fpx, x.fzx⟩
    refine s a o (x.stay a o h n) fun m => ?_
    rcases x.fpx a (hW a m) with q | q
    · exact n q
    · rw [h] at q; cases q
  exact y.less l
/-- a slot's container is written: the slots behind it -/
theorem mut_sl {i n : Nat} {d' : D} {v : V} {f1 z1 f2 z2 g1 y1 g2 y2 f1' z1' fv zv : List Addr} (sr : SL K H1 σ (st ρ1 i none) g2 y2) (hσ : σ[i]? = some (some v)) (p1 : (g1 ++ g2).Perm f2) (p2 : (y1 ++ y2).Perm z2) (dj : Disj (f1 ++ f2) (z1 ++ z2))
    (x : Ext false H fp fz H1 (f1 ++ f2) (z1 ++ z2)) (s : Stay g1 H1 H2) (rd : Rep K H2 d' n v f1' z1') (l : Less (f1 ++ g1) (z1 ++ y1) (fv ++ f1') (zv ++ z1')) :
    ∃ F Z, SL K H2 σ (st ρ1 i (some (d', n))) F Z ∧ Disj (fv ++ F) (zv ++ Z) ∧ Ext false H fp fz H2 (fv ++ F) (zv ++ Z) := by
  have nd := List.nodup_append.mp (p1.nodup_iff.mpr dj.right.1)
  have sr' := SL.stay s sr (fun a m m' => nd.2.2 a m' a m rfl) (fun a m m' => dj.2 a (List.mem_append_right _ (p1.mem_iff.mp (List.mem_append_left _ m'))) (List.mem_append_right _ (p2.mem_iff.mp (List.mem_append_right _ m))))
  obtain ⟨F, Z, sF, q1, q2⟩ := SL.fill sr' hσ rd
  have L : Less (f1 ++ f2) (z1 ++ z2) (fv ++ F) (zv ++ Z) := by
    obtain ⟨mv, p, sz⟩ := l
    refine .by mv (fun a => ?_) fun a m => ?_
    · have h1 := cnt_perm p a
      have h2 := cnt_perm q1 a
      have h3 := cnt_perm p1 a
      simp only [List.count_append] at *
      omega
    · have h : a ∈ zv ++ z1' ∨ a ∈ y2 := by
        rcases List.mem_append.mp m with m | m
        · exact .inl (List.mem_append_left _ m)
        · rcases List.mem_append.mp (q2.mem_iff.mpr m) with m | m
          · exact .inl (List.mem_append_right _ m)
          · exact .inr m
      rcases h with h | h
      · rcases sz a h with h | h
        · refine .inl ?_
          rcases List.mem_append.mp h with h | h
          · exact List.mem_append_left _ h
          · exact List.mem_append_right _ (p2.mem_iff.mp (List.mem_append_left _ h))
        · exact .inr h
      · exact .inl (List.mem_append_right _ (p2.mem_iff.mp (List.mem_append_right _ h)))
  exact ⟨F, Z, sF, L.disj dj, x.mut s (fun a m => List.mem_append_right _ (p1.mem_iff.mp (List.mem_append_left _ m))) L⟩
theorem mut_dj {f1 z1 f2 z2 g1 y1 g2 y2 : List Addr} (p1 : (g1 ++ g2).Perm f2) (p2 : (y1 ++ y2).Perm z2) (dj : Disj (f1 ++ f2) (z1 ++ z2)) : Disj (f1 ++ g1) (z1 ++ y1) :=
  Less.disj (Less.by g2 (fun a => by have := cnt_perm p1 a; simp only [List.count_append] at *; omega) fun a m => .inl ((List.mem_append.mp m).elim (fun m => List.mem_append_left _ m) fun m => List.mem_append_right _ (p2.mem_iff.mp (List.mem_append_left _ m)))) dj
end
section
variable {X : Cx} {tb : Tb} {cf : Cf} {c : CkC}
theorem pe_none {e : Expr} : PE X e (fun _ _ _ => False) := ⟨fun _ _ _ _ _ _ h => h.elim⟩
def mmT : Mm → String
  | .setdefault => "dict"
  | _ => "list"
def mmId : Mm → String
  | .append => "list.append" | .pop => "list.pop" | .extend => "list.extend" | .insert => "list.insert" | .remove => "list.remove" | .setdefault => "dict.setdefault"
theorem mm_pe {m : Mm} {o : Expr} {es : List Expr} {to : TE} {t : TA} {apos cpos : Pos} (ho : PE X o to) (ha : PA X es t) (hnc : ∀ f a k p, o ≠ .Call f a k p) (hline : (apos.endLine == cpos.line) = true) (h1 : starEach es X.env = es.map fun x => (false, eval x X.env)) (hl : es.length < 20) (hm : m ≠ .insert ∧ m ≠ .remove) :
    PE X (.Call (.Attribute o (ck.mmName m) apos) es [] cpos) (tMth X (mmT m) (rMut m) to t) := by
  cases m
  · exact meth_pe PySem.F.plainAttrs_list PySem.F.slot_list_append PySem.F.type_list_append mt_append ho ha hnc hline h1 hl
  · exact meth_pe PySem.F.plainAttrs_list PySem.F.slot_list_pop PySem.F.type_list_pop (MtR.or (show MtR X "list.pop" rPop from mt_pop) mt_popI) ho ha hnc hline h1 hl
  · exact meth_pe PySem.F.plainAttrs_list PySem.F.slot_list_extend PySem.F.type_list_extend mt_extend ho ha hnc hline h1 hl
  · exact absurd rfl hm.1
  · exact absurd rfl hm.2
  · exact meth_pe PySem.F.plainAttrs_dict PySem.F.slot_dict_setdefault PySem.F.type_dict_setdefault mt_sd ho ha hnc hline h1 hl
theorem mm_not {m : Mm} (d : D) (n : Nat) (xs : List Sl) (h : m = .insert ∨ m = .remove) : mutD m d n xs = none := by
  rcases h with rfl | rfl <;> rfl
theorem knd_tyG {m : Mm} {d : D} {n : Nat} {v : V} {H : Hp} {f z : List Addr} (r : Rep X.K H d n v f z) (h : kndD (some (d, n)) = mmK m) : tyG X (mmT m) v H := by
  have hl : ∀ l, d = .lst l → tyG X "list" v H := by
    rintro l rfl
    obtain ⟨z', r', _⟩ := r.frz
    obtain ⟨a, vs, _, rfl, h, _⟩ := r'.toLst
    exact tyG_list rfl h
  have hk : ∀ l, d = .dk l → tyG X "dict" v H := by
    rintro l rfl
    obtain ⟨z', r', _⟩ := r.frz
    obtain ⟨a, vs, _, rfl, h, _⟩ := r'.toDk
    exact tyG_dict rfl (.inl ⟨vs, h⟩)
  cases m <;> cases d <;> first | exact hl _ rfl | exact hk _ rfl | (simp [kndD, mmK] at h)
theorem mutv_pe (ok : XOk X tb cf c) {m : Mm} {i : Nat} {l : Ex} {x : Str} {xs : List Expr} {p apos cpos : Pos} (hx : ckVar c i x = true) (il : PA X xs (tIA X.K cf l)) (hline : (apos.endLine == cpos.line) = true) (h1 : starEach xs X.env = xs.map fun x => (false, eval x X.env)) (hl : xs.length < 20) :
    PE X (.Call (.Attribute (.Name x p) (ck.mmName m) apos) xs [] cpos) (tI X.K cf (.mutv m i l)) := by
  by_cases hm : m = .insert ∨ m = .remove
  · refine pe_imp pe_none fun σ H Q ⟨ρ, fp, fz, d, ρ', s, dj, e, q⟩ => ?_
    simp only [ev] at e
    split at e
    · cases e
    · obtain ⟨ys, ρ2, e2, eb⟩ := bind_inv e
      split at eb
      · rw [mm_not _ _ _ hm] at eb; cases eb
      · cases eb
  · have hm2 : m ≠ .insert ∧ m ≠ .remove := ⟨fun h => hm (.inl h), fun h => hm (.inr h)⟩
    refine pe_imp (mm_pe (ckVar_ok ok hx) il (fun _ _ _ _ h => by cases h) hline h1 hl hm2) fun σ H Q ⟨ρ, fp, fz, d, ρ', s, dj, e, q⟩ => ?_
    simp only [ev] at e
    split at e
    · cases e
    rename_i hk
    have hk : kndD (gt ρ i) = mmK m := by simpa using hk
    obtain ⟨ys, ρ1, e2, eb⟩ := bind_inv e
    obtain ⟨as, ρ0, e0, ec⟩ := bind_inv e2
    clear e e2
    obtain ⟨hv, h0⟩ := of_inv ec
    subst h0
    split at eb
    · rename_i d1 n1 hg
      split at eb
      · rename_i u d' hmu
        cases eb
        have hs : ∃ d0 n0, gt ρ i = some (d0, n0) := by
          cases h : gt ρ i with
          | none => rw [h] at hk; cases m <;> simp [kndD, mmK] at hk
          | some s => exact ⟨s.1, s.2, rfl⟩
        obtain ⟨d0, n0, hg0⟩ := hs
        obtain ⟨v, _, _, _, _, hσ, r0, _⟩ := SL.take s hg0
        rw [hg0] at hk
        refine ⟨v, hσ, knd_tyG r0 hk, ρ, fp, fz, as, _, s, dj, e0, fun vs H1 f1 z1 f2 z2 al s2 d2 x2 _ => ?_⟩
        have sv := vals_al hv al
        obtain ⟨v', g1, g2, y1, y2, hσ', r1, sr, p1, p2⟩ := SL.take s2 hg
        rw [hσ] at hσ'
        cases hσ'
        refine mut_core r1 sv (mut_dj p1 p2 d2) hmu fun w H2 fv zv f1' z1' hst rw' rd' lss => ?_
        obtain ⟨F, Z, sF, dF, xF⟩ := mut_sl sr hσ p1 p2 d2 (x2.weak fun h => by cases h) hst rd' lss
        exact q w H2 fv zv F Z rw' sF dF xF (fun h => by cases h)
      · cases eb
    · cases eb
theorem mutk_pe (ok : XOk X tb cf c) {m : Mm} {i : Nat} {key : Str} {l : Ex} {x : Str} {xs : List Expr} {p apos cpos pk ps : Pos} {uk : Nat} (hx : ckVar c i x = true) (il : PA X xs (tIA X.K cf l)) (hq : quiet l = true) (hline : (apos.endLine == cpos.line) = true) (h1 : starEach xs X.env = xs.map fun x => (false, eval x X.env)) (hl : xs.length < 20) :
    PE X (.Call (.Attribute (.Subscript (.Name x p) (.Constant (.str key) uk pk) ps) (ck.mmName m) apos) xs [] cpos) (tI X.K cf (.mutk m i key l)) := by
  by_cases hm : m = .insert ∨ m = .remove
  · refine pe_imp pe_none fun σ H Q ⟨ρ, fp, fz, d, ρ', s, dj, e, q⟩ => ?_
    simp only [ev] at e
    split at e
    · cases e
    · obtain ⟨ys, ρ2, e2, eb⟩ := bind_inv e
      split at eb
      · split at eb
        · rw [mm_not _ _ _ hm] at eb; cases eb
        · cases eb
      · cases eb
  · have hm2 : m ≠ .insert ∧ m ≠ .remove := ⟨fun h => hm (.inl h), fun h => hm (.inr h)⟩
    have hrec : PE X (.Subscript (.Name x p) (.Constant (.str key) uk pk) ps) _ := pe_ix (ix_dict (by have := ok.hu; omega)) (ckVar_ok ok hx) pe_str (notSl_ok rfl)
    refine pe_imp (mm_pe hrec il (fun _ _ _ _ h => by cases h) hline h1 hl hm2) fun σ H Q ⟨ρ, fp, fz, d, ρ', s, dj, e, q⟩ => ?_
    simp only [ev] at e
    split at e
    · cases e
    rename_i hk
    have hk : kndK (gt ρ i) key = mmK m := by simpa using hk
    obtain ⟨ys, ρ1, e2, eb⟩ := bind_inv e
    obtain ⟨as, ρ0, e0, ec⟩ := bind_inv e2
    clear e e2
    obtain ⟨hv, h0⟩ := of_inv ec
    subst h0
    split at eb
    · rename_i kvs1 n1 hg
      split at eb
      · rename_i d1 hd1
        split at eb
        · rename_i u d' hmu
          cases eb
          have hs : ∃ kvs0 n0 d0, gt ρ i = some (.dk kvs0, n0) ∧ getK kvs0 (.inr key) = some d0 ∧ kndD (some (d0, 0)) = mmK m := by
            unfold kndK at hk
            split at hk
            · rename_i kvs0 n0 hg0 _ _
              split at hk
              · rename_i d0 hd0
                exact ⟨kvs0, n0, d0, hg0, hd0, hk⟩
              · cases m <;> simp [mmK] at hk
            · cases m <;> simp [mmK] at hk
          obtain ⟨kvs0, n0, d0, hg0, hd0, hk0⟩ := hs
          obtain ⟨v, _, _, _, _, hσ, r0, _⟩ := SL.take s hg0
          obtain ⟨z0, r0', _⟩ := r0.frz
          obtain ⟨a, ws, z0', rfl, hRd, rk0, _⟩ := r0'.toDk
          obtain ⟨w0, z2', hw0, rw0, _⟩ := RepK.at0 rk0 (.inr key) d0 hd0
          refine ⟨.ref a, hσ, a, w0, rfl, .inl ⟨ws, .inr key, hRd, rfl, hw0.symm⟩, knd_tyG rw0 hk0, ρ, fp, fz, as, _, s, dj, e0, fun vs H1 f1 z1 f2 z2 al s2 d2 x2 _ => ?_⟩
          have sv := vals_al hv al
          obtain ⟨v', g1, g2, y1, y2, hσ', r1, sr, p1, p2⟩ := SL.take s2 hg
          rw [hσ] at hσ'
          cases hσ'
          rw [hq] at x2
          obtain ⟨a', ws', g, ha', hH1, rk1, rfl⟩ := r1.ownK
          cases ha'
          have hRd1 : Rd H1 a (.dK ws) := x2.stay.rd hRd (fun m => absurd m List.not_mem_nil)
          have hww : ws' = ws := by
            rcases hRd1 with h | ⟨o, h⟩
            · rw [hH1] at h; cases h; rfl
            · rw [hH1] at h; cases h
          subst hww
          obtain ⟨v2, fd, zd, f', z', hv2, rd, q1, q2, foc⟩ := RepK.focus (.inr key) rk1 hd1
          rw [hw0] at hv2
          cases hv2
          have d3 := mut_dj p1 p2 d2
          have nd3 := List.nodup_cons.mp (List.nodup_append.mp d3.1).2.1
          have L0 : Less (f1 ++ (a :: g)) (z1 ++ y1) (f1 ++ fd) (z1 ++ zd) := .by (a :: f') (fun b => by have := cnt_perm q1 b; simp only [List.count_append, List.count_cons] at *; omega)
            fun b m => .inl ((List.mem_append.mp m).elim (fun m => List.mem_append_left _ m) fun m => List.mem_append_right _ (q2.mem_iff.mp (List.mem_append_left _ m)))
          refine mut_core rd sv (L0.disj d3) hmu fun w H2 fv zv f1' z1' hst rw' rd' lss => ?_
          have ndg := List.nodup_append.mp (q1.nodup_iff.mpr nd3.2)
          have dz : ∀ b ∈ a :: g, b ∉ y1 := fun b m m' => d3.2 b (List.mem_append_right _ m) (List.mem_append_right _ m')
          obtain ⟨f'', z'', rk2, q3, q4⟩ := foc H2 fd d' f1' z1' hst (fun b m m' => ndg.2.2 b m' b m rfl) (fun b m m' => dz b (List.mem_cons_of_mem _ (q1.mem_iff.mp (List.mem_append_left _ m'))) (q2.mem_iff.mp (List.mem_append_right _ m))) rd'
          have hH2 : H2 a = some (.dK ws') := hst a _ hH1 fun m => absurd (q1.mem_iff.mp (List.mem_append_left _ m)) nd3.1
          have lss2 : Less (f1 ++ (a :: g)) (z1 ++ y1) (fv ++ (a :: f'')) (zv ++ z'') := by
            obtain ⟨mv, pm, sz⟩ := lss
            refine .by mv (fun b => ?_) fun b m => ?_
            · have h1 := cnt_perm pm b
              have h2 := cnt_perm q1 b
              have h3 := cnt_perm q3 b
              simp only [List.count_append, List.count_cons] at *
              omega
            · have hb : b ∈ zv ++ z1' ∨ b ∈ z' := by
                rcases List.mem_append.mp m with m | m
                · exact .inl (List.mem_append_left _ m)
                · rcases List.mem_append.mp (q4.mem_iff.mpr m) with m | m
                  · exact .inl (List.mem_append_right _ m)
                  · exact .inr m
              rcases hb with hb | hb
              · refine (sz b hb).imp (fun hb => ?_) id
                rcases List.mem_append.mp hb with hb | hb
                · exact List.mem_append_left _ hb
                · exact List.mem_append_right _ (q2.mem_iff.mp (List.mem_append_left _ hb))
              · exact .inl (List.mem_append_right _ (q2.mem_iff.mp (List.mem_append_right _ hb)))
          obtain ⟨F, Z, sF, dF, xF⟩ := mut_sl sr hσ p1 p2 d2 (x2.weak fun h => by cases h) (hst.mono fun b m => List.mem_cons_of_mem _ (q1.mem_iff.mp (List.mem_append_left _ m))) (Rep.mkK hH2 rk2) lss2
          exact q w H2 fv zv F Z rw' sF dF xF (fun h => by cases h)
        · cases eb
      · cases eb
    · cases eb
end
end Pi
/-! Pi14e: enumerate of a tuple -/
namespace Pi
open PySem L2 PySem.Spec PyProof.Rows
theorem meets_enum_newT (l : Addr) (items : Array Value) :
    Meets (Builtin.«enumerate.__new__» ⟨[.type "enumerate", .ref l], []⟩) (fun _ R s => s.heap.IsTuple l items ∧
      R (.ok (.ret (.ref (s.heap.push { cls := .type "tuple_iterator", data := .fields #[.ref l, .int 0 0] }).objs.size)))
        { s with heap := (s.heap.push { cls := .type "tuple_iterator", data := .fields #[.ref l, .int 0 0] }).push { cls := .type "enumerate", data := .fields #[.none, .bool false, .ref s.heap.objs.size, rawInt 0, .none, .none] } }) :=
  .of_wp fun prog w A R s h => by
    obtain ⟨hp, g, d, tk, os⟩ := s; obtain ⟨hL, h⟩ := h
    obtain ⟨o, hl, _⟩ := id hL
    have hsub := sub_enumerate
    have hL' : Heap.IsTuple (Shared.heap ⟨hp, g, d, tk, os⟩) l items := hL
    replace hl : hp.get? l = some o := hl
    wp_walk using AutoSeq1.wpAny_loadPart' hl
    refine wpAny_stack_any fun st => wpAny_pure ?_
    split
    · rename_i c _ _ _ _ _
      cases (c == Value.type "enumerate")
      · wp_walk using AutoSeq1.wpAny_loadPart' hl, wpAny_pyIter_tuple hL'
        exact ⟨_, rfl, h⟩
      · wp_walk using AutoSeq1.wpAny_loadPart' hl, wpAny_pyIter_tuple hL'
        exact ⟨_, rfl, h⟩
    · wp_walk using AutoSeq1.wpAny_loadPart' hl, wpAny_pyIter_tuple hL'
      exact ⟨_, rfl, h⟩
section
variable {prog : Program} {w : World} {A : Around} {E : Value → Shared → Prop} {s : Shared}
theorem call_enum_tup {l : Addr} {items : Array Value} {Q : Value → Shared → Prop} (hL : s.heap.IsTuple l items)
    (h : ∀ h', IsEnum h' (s.heap.objs.size + 1) s.heap.objs.size 0 .none → h'.IsTupleIter s.heap.objs.size l 0 → h'.objs.size = s.heap.objs.size + 2 →
      (∀ b o, s.heap.get? b = some o → h'.get? b = some o) → Q (.ref (s.heap.objs.size + 1)) { s with heap := h' }) :
    wpAny (model prog w) A (call (.type "enumerate") [.ref l]) Q E s := by
  refine callType_new F.called_enumerate (by decide) (F.typeCall_enumerate_1 _) (F.newCall_enumerate_1 _) (fun obj => F.args_object_init_2 obj _) F.entry_enumerate_new
    (meets_enum_newT l items) ⟨hL, ?_⟩
  have hz : (s.heap.push { cls := .type "tuple_iterator", data := .fields #[.ref l, .int 0 0] }).objs.size = s.heap.objs.size + 1 := Heap.size_push ..
  show _ ∧ _
  rw [hz]
  have he : IsEnum ((s.heap.push { cls := .type "tuple_iterator", data := .fields #[.ref l, .int 0 0] }).push
      { cls := .type "enumerate", data := .fields #[.none, .bool false, .ref s.heap.objs.size, rawInt 0, .none, .none] }) (s.heap.objs.size + 1) s.heap.objs.size 0 .none := by
    have := Heap.get?_push_size (s.heap.push { cls := .type "tuple_iterator", data := .fields #[.ref l, .int 0 0] })
      (o := { cls := .type "enumerate", data := .fields #[.none, .bool false, .ref s.heap.objs.size, rawInt 0, .none, .none] }) rfl
    rw [hz] at this; exact this
  refine ⟨⟨_, he, rfl⟩, h _ he ⟨_, Heap.get?_push_of_some _ (Heap.get?_push_size _ rfl), rfl, rfl⟩ (by rw [Heap.size_push, hz]) fun b o x => Heap.get?_push_of_some _ (Heap.get?_push_of_some _ x)⟩
theorem next_enumT_end {e it l : Addr} {i : Nat} {items : Array Value} {old : Value} {Q : Option Value → Shared → Prop} (hh : A.handled = none)
    (he : IsEnum s.heap e it i old) (hit : s.heap.IsTupleIter it l i) (hl : s.heap.IsTuple l items) (hx : items[i]? = none)
    (hQ : ∀ h', Heap.ExtBut it s.heap h' → Q none { s with heap := h' }) : wpAny (model prog w) A (pyNext (.ref e)) Q E s := by
  have hT : s.TypeIs (.ref e) "enumerate" := ⟨_, he, rfl⟩
  unfold pyNext
  refine wpAny_bind (wpAny_attempt (wpAny_callSpecial?_slot (name := Str.ofString "__next__") hT F.slot_enumerate_next
    (wpAny_call_entry F.slot_enumerate_next hT F.entry_enumerate_next ?_ (F.args_enumerate_next_1 _))))
  show wpAny _ _ (field (.ref e) 2 >>= _) _ _ _
  refine wpAny_bind (wpAny_field he rfl (x := .ref it) rfl ?_)
  refine wpAny_bind (wpAny_nextOf_tuple_end hh hit hl hx fun h' x he' hx' => ?_)
  obtain ⟨o, ho, hc⟩ := hx'
  refine wpAny_bind (wpAny_isInstance (T := "StopIteration") (b := true) ⟨o, ho, hc⟩ isSubtype_stop ?_)
  exact wpAny_pure (hQ _ he')
end
/-- the tuple at a, each item in a new pair -/
def IteT (K : PySem.W.Frag) (a : Addr) : It :=
  ⟨fun i H => ∃ (xs : List V) (x : V), SqT K H a xs ∧ xs[i]? = some x, fun i H v H' => ∃ T x, v = .ref T ∧ H T = none ∧ H' = upd H T (.tup [.int (i : Nat), x]) ∧ ∀ xs, SqT K H a xs → xs[i]? = some x, fun i H => ∃ xs : List V, SqT K H a xs ∧ xs.length ≤ i⟩
theorem turn_enumT {P : Program} {w : World} {K : PySem.W.Frag} {elts : List Expr} {kk : Nat} {tpos : Pos} (a e it : Addr) :
    Turn P w K (.Tuple elts kk tpos) (IteT K a) [e, it] e (fun i h => (∃ old, IsEnum h e it ((i : Nat) : Int) old) ∧ h.IsTupleIter it a i ∧ e ≠ it ∧ a ≠ e ∧ a ≠ it) where
  mem := by simp
  obj := fun i h st b hb => by
    obtain ⟨⟨old, he⟩, ⟨o, ho, hc, hd⟩, _⟩ := st
    have e' : b = e ∨ b = it := by simpa using hb
    rcases e' with z | z
    · rw [z]; exact ⟨_, he, fun v q => nomatch q⟩
    · rw [z]; exact ⟨o, ho, fun v q => by rw [hd] at q; cases q⟩
  keep := fun i h h' st k => let ⟨⟨old, he⟩, hi, hne⟩ := st; ⟨⟨old, k e (by simp) _ he⟩, hi.at fun o q => k it (by simp) o q, hne⟩
  item := by
    intro X hP hw hK hc i pins s σ H E I hf st hg
    subst hP hw hK
    obtain ⟨⟨old, he⟩, hit, hne, hae, hai⟩ := st
    obtain ⟨xs, x, hq, hx⟩ := hg
    obtain ⟨its, rv, p, hz⟩ := I.tuple hq
    obtain ⟨u, hu, ru⟩ := rv.get hx
    have hel : e < s.heap.objs.size := Heap.lt_size he
    have hil : it < s.heap.objs.size := by obtain ⟨_, q, _⟩ := hit; exact Heap.lt_size q
    have hlt : i < its.toArray.size := by
      rw [List.size_toArray]
      exact (List.getElem?_eq_some_iff.mp hu).1
    refine wpAny_pyNext_enum_itemD (Draws.tuple (prog := X.prog) (w := X.w) (A := X.A.in1) (show X.A.in1.handled = none from I.ok.hd hc) it a hai its.toArray) he ⟨hit, p⟩ hlt hne (by simp [hne, Ne.symm hae]) fun y h' tk hy ho hit' hT hsz hk => ?_
    have huy : u = y := by
      have : its[i]? = some y := by simpa using hy
      rw [hu] at this; exact Option.some.inj this
    subst huy
    refine ⟨_, rfl, wpAny_letOwnedTupleGo_enum (s := { s with heap := h', toks := tk + 1 }) ho fun h'' he' sb => ?_⟩
    have hT2 : h''.get? s.heap.objs.size = some { cls := .type "tuple", data := .seq #[.int i tk, u] } := (sb.2 _ (Nat.ne_of_gt hel)).trans hT
    have new : ObjOk X.prog X.w (upd H s.heap.objs.size (.tup [.int (i : Nat), x])) h'' s.heap.objs.size (.tup [.int (i : Nat), x]) :=
      ⟨by show 2 ≤ sizeLine; decide, [.int i tk, u], .cons ⟨_, rfl⟩ (.cons ru .nil), ⟨_, hT2, rfl, _, rfl⟩⟩
    have I1 : Inv X pins σ (upd H s.heap.objs.size (.tup [.int (i : Nat), x])) { s with heap := h'', toks := tk + 1 } :=
      I.turnedNew (ch := [e, it]) (fun b ob hb q => (sb.2 b (fun z => hb (by simp [z]))).trans (hk b ob (fun z => hb (by simp [z])) (fun z => hb (by simp [z])) q)) hf (Nat.le_refl _) new
    refine ⟨.ref s.heap.objs.size, _, I1, rfl, ⟨_, x, rfl, I.hok.fresh (Nat.le_refl _), rfl, fun ys hy => by rw [I.tuple_inj hy hq]; exact hx⟩, ⟨⟨u, ?_⟩, hit'.1.at fun o q => (sb.2 it (Ne.symm hne)).trans q, hne, hae, hai⟩, fun b hb => ?_⟩
    · have e1 : ((i + 1 : Nat) : Int) = (i : Int) + 1 := by omega
      rw [e1]; exact he'
    · have hb' : b < s.heap.objs.size := by
        have e' : b = e ∨ b = it := by simpa using hb
        rcases e' with z | z
        · rw [z]; exact hel
        · rw [z]; exact hil
      rw [upd_ne (Nat.ne_of_lt hb')]
      exact (hf b hb).1
  done := by
    intro X hP hw hK hc i pins s σ H E I hf st hg
    subst hP hw hK
    obtain ⟨⟨old, he⟩, hit, hne, hae, hai⟩ := st
    obtain ⟨xs, hq, hx⟩ := hg
    obtain ⟨its, rv, p, hz⟩ := I.tuple hq
    obtain ⟨f0, f1, f2, f3, f4, f5⟩ := hf it (by simp)
    have hl := rv.length
    exact next_enumT_end (I.ok.hd hc) he hit p (by simp; omega) fun h' eb => ⟨rfl, I.turned (t' := s.toks) (fun b o hb q => eb b o hb q) f0 f1 f3 f4 f5⟩
  self := fun A i s Q E st h => let ⟨⟨_, he⟩, _⟩ := st; wpAny_pyIter_enum he h
def iEnumT (K : PySem.W.Frag) (ta : TA) : TI := fun σ H R => ta σ H fun vs H1 => ∃ a xs, vs = [.ref a] ∧ SqT K H1 a xs ∧ R (IteT K a) H1
theorem pi_enumT {X : Cx} {e : Expr} {ta : TA} {p pos tpos : Pos} {elts : List Expr} {kk : Nat} (hg : Gl X "enumerate") (hm : X.mg "enumerate" = none) (ha : PA X [e] ta) (hs : starEach [e] X.env = [(false, eval e X.env)] := by rfl) :
    PI X (.Tuple elts kk tpos) (.Call (.Name "enumerate" p) [e] [] pos) (iEnumT X.K ta) := by
  refine ⟨fun pins s σ H R I h => ?_⟩
  refine Call_ (ld_blt I hg hm boot_enumerate (PyProof.Rows.callWith_type1 (thn (ha.run pos pins s σ H _ I h) fun us s1 ⟨vs, H1, I1, r1, q1⟩ => ?_) hs rfl))
  obtain ⟨a, xs, ex, hq, q⟩ := q1
  subst ex
  cases r1 with
  | cons r rr =>
    cases rr
    cases r
    obtain ⟨its, rv, p', hz⟩ := I1.tuple hq
    have hal : a < s1.heap.objs.size := by obtain ⟨_, ho, _⟩ := p'; exact Heap.lt_size ho
    refine call_enum_tup p' fun h' he hit hsz hk => wpAny_pyIter_enum he ?_
    have I2 : Inv X pins σ H1 { s1 with heap := h' } := I1.kept (t' := s1.toks) hk
    refine ⟨s1.heap.objs.size + 1, [s1.heap.objs.size + 1, s1.heap.objs.size], _, _, H1, rfl, I2, turn_enumT a (s1.heap.objs.size + 1) s1.heap.objs.size, ⟨⟨.none, he⟩, hit, Nat.succ_ne_self _, Nat.ne_of_lt (Nat.lt_succ_of_lt hal), Nat.ne_of_lt hal⟩, fun b hb => ?_, q⟩
    have e' : b = s1.heap.objs.size + 1 ∨ b = s1.heap.objs.size := by simpa using hb
    have hle : s1.heap.objs.size ≤ b := by
      rcases e' with z | z
      · rw [z]; exact Nat.le_add_right _ _
      · rw [z]; exact Nat.le_refl _
    exact I1.fpOk hle (I1.hok.fresh hle)
/-! ### as the evaluator's items -/
theorem enum_at {l : List D} {i : Nat} {d : D} (h : (enumD l)[i]? = some d) : ∃ y, l[i]? = some y ∧ d = .tup [.int (i : Nat), y] := by
  unfold enumD at h
  rw [List.getElem?_map, Option.map_eq_some_iff] at h
  obtain ⟨⟨y, j⟩, h1, rfl⟩ := h
  rw [List.getElem?_zipIdx, Option.map_eq_some_iff] at h1
  obtain ⟨y', h2, h3⟩ := h1
  injection h3 with h4 h5
  subst h4 h5
  exact ⟨_, h2, by simp⟩
theorem enum_len {l : List D} : (enumD l).length = l.length := by simp [enumD]
theorem pair_rep {K : PySem.W.Frag} {H : Hp} {T : Addr} {i : Int} {y : D} {v : V} {z : List Addr} (r : Rep K H y 0 v [] z) (hT : H T = none) : Rep K (upd H T (.tup [.int i, v])) (.tup [.int i, y]) 0 (.ref T) [] z := by
  have r' := Rep.stay0 (.new hT) (H' := upd H T (.tup [.int i, v])) r
  simp only [Rep, RepL]
  exact ⟨T, _, rfl, upd_same, .int i, [v], [], [], [], z, rfl, rfl, rfl, ⟨rfl, rfl, rfl⟩, v, [], [], [], z, [], rfl, rfl, by simp, r', rfl, rfl, rfl⟩
theorem it_enumL {K : PySem.W.Frag} {a : Addr} {l : List D} {vs : List V} {z : List Addr} : ItOk K (Ite K a) (enumD l) (fun H => H a = some (.lst vs) ∧ RepL K H l 0 vs [] z) (a :: z) where
  keep := fun W H H' s n ⟨h, r⟩ => ⟨s a _ h fun m => absurd m (n a List.mem_cons_self), RepL.stay s _ _ _ _ _ r (by simp) fun b m => n b (List.mem_cons_of_mem _ m)⟩
  trk := fun H ⟨h, r⟩ b m q => by
    rcases List.mem_cons.mp m with rfl | m
    · rw [h] at q; cases q
    · obtain ⟨o, e⟩ := (RepL.own _ _ _ _ _ r).2 b m
      rw [e] at q; cases q
  go := fun i H d ⟨h, r⟩ hi => by
    obtain ⟨y, hy, rfl⟩ := enum_at hi
    obtain ⟨v, z', e, rv, hz⟩ := RepL.at0 r i y hy
    refine ⟨⟨vs, v, SqL.of h, e⟩, fun x H' ⟨T, w, ex, hT, hH, hx⟩ => ?_⟩
    have := hx vs (SqL.of h)
    rw [e] at this
    cases this
    subst ex hH
    exact ⟨.new hT, z', pair_rep rv hT, fun b m => .inl (List.mem_cons_of_mem _ (hz b m))⟩
  stop := fun i H ⟨h, r⟩ hi => ⟨vs, SqL.of h, by rw [RepL.len r]; rw [enum_len] at hi; exact hi⟩
theorem it_enumT {K : PySem.W.Frag} {a : Addr} {l : List D} {vs : List V} {z : List Addr} : ItOk K (IteT K a) (enumD l) (fun H => SqT K H a vs ∧ RepL K H l 0 vs [] z) z where
  keep := fun W H H' s n ⟨h, r⟩ => ⟨s.sqt h, RepL.stay s _ _ _ _ _ r (by simp) n⟩
  trk := fun H ⟨h, r⟩ b m q => by
    obtain ⟨o, e⟩ := (RepL.own _ _ _ _ _ r).2 b m
    rw [e] at q; cases q
  go := fun i H d ⟨h, r⟩ hi => by
    obtain ⟨y, hy, rfl⟩ := enum_at hi
    obtain ⟨v, z', e, rv, hz⟩ := RepL.at0 r i y hy
    refine ⟨⟨vs, v, h, e⟩, fun x H' ⟨T, w, ex, hT, hH, hx⟩ => ?_⟩
    have := hx vs h
    rw [e] at this
    cases this
    subst ex hH
    exact ⟨.new hT, z', pair_rep rv hT, fun b m => .inl (hz b m)⟩
  stop := fun i H ⟨h, r⟩ hi => ⟨vs, h, by rw [RepL.len r]; rw [enum_len] at hi; exact hi⟩
section
variable {X : Cx} {tb : Tb} {cf : Cf} {c : CkC}
theorem ienum_pi (ok : XOk X tb cf c) {a : Ex} {elts : List Expr} {kk : Nat} {tpos : Pos} {xa : Expr} {p pos : Pos} (hb : ckBlt tb c "enumerate" = true) (ia : PE X xa (tI X.K cf a)) (hs : starEach [xa] X.env = [(false, eval xa X.env)]) : PI X (.Tuple elts kk tpos) (.Call (.Name "enumerate" p) [xa] [] pos) (tII X.K cf (.ienum a)) := by
  obtain ⟨hm, hg, _, _⟩ := ckBlt_ok ok hb
  refine ⟨fun pins s σ H R I ⟨ρ, fp, fz, items, ρ', sl, dj, e, k⟩ => ?_⟩
  simp only [evI] at e
  obtain ⟨x, ρ1, e1, e2⟩ := bind_inv e
  clear e
  obtain ⟨d, n⟩ := x
  cases d <;> simp only [reduceCtorEq] at e2
  case lst l =>
    cases e2
    refine (pi_enum hg hm (pa_cons ia pa_nil hs) hs).run pins s σ H R I (step1 (q := quiet a) sl dj e1 (fun h => h) fun v H1 z1 f2 z2 r s2 d2 x2 => ?_)
    obtain ⟨b, vs, z', rfl, h, rl, rfl⟩ := r.toLst
    exact ⟨b, vs, rfl, SqL.of h, k _ H1 _ _ f2 z2 it_enumL ⟨h, rl⟩ s2 d2 x2⟩
  case tup l =>
    cases e2
    refine (pi_enumT hg hm (pa_cons ia pa_nil hs) hs).run pins s σ H R I (step1 (q := quiet a) sl dj e1 (fun h => h) fun v H1 z1 f2 z2 r s2 d2 x2 => ?_)
    obtain ⟨b, vs, rfl, h, rl⟩ := r.toTup
    exact ⟨b, vs, rfl, SqT.of h, k _ H1 _ _ f2 z2 it_enumT ⟨SqT.of h, rl⟩ s2 d2 x2⟩
end
end Pi
/-! Pi15: what is walked; targets; displays of dicts. -/
namespace Pi
open PySem L2
theorem getI_map {l : List Int} {i : Nat} {d : D} (h : (l.map D.int)[i]? = some d) : ∃ k, d = .int k ∧ l[i]? = some k := by
  rw [List.getElem?_map, Option.map_eq_some_iff] at h
  obtain ⟨k, a, b⟩ := h
  exact ⟨k, b.symm, a⟩
section
variable {X : Cx} {tb : Tb} {cf : Cf} {c : CkC}
theorem set_no {x : Expr} {env : PySem.Env} (h : ∀ a k p, x ≠ .Set a k p) (v : Value) : foldedSetIterable x env v = pure v := by
  cases x <;> first | rfl | exact absurd rfl (h _ _ _)
/-- walked: a list, as it stands -/
theorem it_list {K : PySem.W.Frag} {a : Addr} {l : List D} {vs : List V} {z : List Addr} : ItOk K (Itl K a) l (fun H => H a = some (.lst vs) ∧ RepL K H l 0 vs [] z) (a :: z) where
  keep := fun W H H' s n ⟨h, r⟩ => ⟨s a _ h fun m => absurd m (n a List.mem_cons_self), RepL.stay s _ _ _ _ _ r (by simp) fun b m => n b (List.mem_cons_of_mem _ m)⟩
  trk := fun H ⟨h, r⟩ b m q => by
    rcases List.mem_cons.mp m with rfl | m
    · rw [h] at q; cases q
    · obtain ⟨o, e⟩ := (RepL.own _ _ _ _ _ r).2 b m
      rw [e] at q; cases q
  go := fun i H d ⟨h, r⟩ hi => by
    obtain ⟨v, z', e, rv, hz⟩ := RepL.at0 r i d hi
    refine ⟨⟨vs, v, SqL.of h, e⟩, fun x H' ⟨hh, hx⟩ => ?_⟩
    subst hh
    have := hx vs (SqL.of h)
    rw [e] at this
    cases this
    exact ⟨.refl _ _, z', rv, fun b m => .inl (List.mem_cons_of_mem _ (hz b m))⟩
  stop := fun i H ⟨h, r⟩ hi => ⟨vs, SqL.of h, by rw [RepL.len r]; exact hi⟩
theorem it_tup {K : PySem.W.Frag} {a : Addr} {l : List D} {vs : List V} {z : List Addr} : ItOk K (Itt K a) l (fun H => SqT K H a vs ∧ RepL K H l 0 vs [] z) z where
  keep := fun W H H' s n ⟨h, r⟩ => ⟨s.sqt h, RepL.stay s _ _ _ _ _ r (by simp) n⟩
  trk := fun H ⟨h, r⟩ b m q => by
    obtain ⟨o, e⟩ := (RepL.own _ _ _ _ _ r).2 b m
    rw [e] at q; cases q
  go := fun i H d ⟨h, r⟩ hi => by
    obtain ⟨v, z', e, rv, hz⟩ := RepL.at0 r i d hi
    refine ⟨⟨vs, v, h, e⟩, fun x H' ⟨hh, hx⟩ => ?_⟩
    subst hh
    have := hx vs h
    rw [e] at this
    cases this
    exact ⟨.refl _ _, z', rv, fun b m => .inl (hz b m)⟩
  stop := fun i H ⟨h, r⟩ hi => ⟨vs, h, by rw [RepL.len r]; exact hi⟩
theorem it_scr1 {K : PySem.W.Frag} {a : Addr} {l : List Int} : ItOk K (Itl K a) (l.map .int) (fun H => Rd H a (.lst (l.map .int))) [a] where
  keep := fun W H H' s n h => s.rd h (n a (by simp))
  trk := fun H h b m q => by
    rw [List.mem_singleton.mp m] at q
    rcases h with h | ⟨o, h⟩ <;> (rw [h] at q; cases q)
  go := fun i H d h hi => by
    obtain ⟨k, rfl, hk⟩ := getI_map hi
    refine ⟨⟨_, .int k, .inl h, by rw [List.getElem?_map, hk]; rfl⟩, fun x H' ⟨hh, hx⟩ => ?_⟩
    subst hh
    have := hx _ (.inl h)
    rw [List.getElem?_map, hk] at this
    cases this
    exact ⟨.refl _ _, [], by simp [Rep], by simp⟩
  stop := fun i H h hi => ⟨_, .inl h, by simpa using hi⟩
theorem it_scr2 {K : PySem.W.Frag} {a : Addr} {l : List Int} (h : KL K a (l.map .int)) : ItOk K (Itl K a) (l.map .int) (fun _ => True) [] where
  keep := fun W H H' s n h => trivial
  trk := fun H h b m q => absurd m List.not_mem_nil
  go := fun i H d _ hi => by
    obtain ⟨k, rfl, hk⟩ := getI_map hi
    refine ⟨⟨_, .int k, .inr h, by rw [List.getElem?_map, hk]; rfl⟩, fun x H' ⟨hh, hx⟩ => ?_⟩
    subst hh
    have := hx _ (.inr h)
    rw [List.getElem?_map, hk] at this
    cases this
    exact ⟨.refl _ _, [], by simp [Rep], by simp⟩
  stop := fun i H _ hi => ⟨_, .inr h, by simpa using hi⟩
theorem ival_pi {a : Ex} {tg xa : Expr} (ia : PE X xa (tI X.K cf a)) : PI X tg xa (tII X.K cf (.ival a)) := by
  refine ⟨fun pins s σ H R I ⟨ρ, fp, fz, items, ρ', sl, dj, e, k⟩ => ?_⟩
  simp only [evI] at e
  obtain ⟨x, ρ1, e1, e2⟩ := bind_inv e
  obtain ⟨hi, h0⟩ := of_inv e2
  subst h0
  clear e e2
  obtain ⟨d, n⟩ := x
  cases d <;> simp only [itemsD, Option.some.injEq, reduceCtorEq] at hi
  case lst l =>
    subst hi
    refine (pi_list ia).run pins s σ H R I (step1 (q := quiet a) sl dj e1 (fun h => h) fun v H1 z1 f2 z2 r s2 d2 x2 => ?_)
    obtain ⟨b, vs, z', rfl, h, rl, rfl⟩ := r.toLst
    exact ⟨b, rfl, ⟨vs, SqL.of h⟩, k _ H1 _ _ f2 z2 it_list ⟨h, rl⟩ s2 d2 x2⟩
  case tup l =>
    subst hi
    refine (pi_tup ia).run pins s σ H R I (step1 (q := quiet a) sl dj e1 (fun h => h) fun v H1 z1 f2 z2 r s2 d2 x2 => ?_)
    obtain ⟨b, vs, rfl, h, rl⟩ := r.toTup
    exact ⟨b, rfl, ⟨vs, SqT.of h⟩, k _ H1 _ _ f2 z2 it_tup ⟨SqT.of h, rl⟩ s2 d2 x2⟩
  case ctup l =>
    subst hi
    refine (pi_tup ia).run pins s σ H R I (step1 (q := quiet a) sl dj e1 (fun h => h) fun v H1 z1 f2 z2 r s2 d2 x2 => ?_)
    obtain ⟨b, vs, rfl, h, rl⟩ := r.toCtup
    exact ⟨b, rfl, ⟨vs, h⟩, k _ H1 _ _ f2 z2 it_tup ⟨h, rl⟩ s2 d2 x2⟩
  case scr l =>
    subst hi
    refine (pi_list ia).run pins s σ H R I (step1 (q := quiet a) sl dj e1 (fun h => h) fun v H1 z1 f2 z2 r s2 d2 x2 => ?_)
    simp only [Rep] at r
    obtain ⟨b, rfl, _, q⟩ := r
    rcases q with ⟨q, rfl⟩ | ⟨q, rfl⟩
    · exact ⟨b, rfl, ⟨_, .inl q⟩, k _ H1 _ _ f2 z2 it_scr1 q s2 d2 x2⟩
    · exact ⟨b, rfl, ⟨_, .inr q⟩, k _ H1 _ _ f2 z2 (it_scr2 q) trivial s2 d2 x2⟩
theorem it_rng {K : PySem.W.Frag} (lo : Int) (n : Nat) : ItOk K (Itr lo n) ((List.range n).map fun k => .int (lo + (k : Nat))) (fun _ => True) [] where
  keep := fun W H H' s n h => trivial
  trk := fun H h b m q => absurd m List.not_mem_nil
  go := fun i H d _ hi => by
    rw [List.getElem?_map, Option.map_eq_some_iff] at hi
    obtain ⟨k, hk, rfl⟩ := hi
    obtain ⟨hk1, hk2⟩ := List.getElem?_eq_some_iff.mp hk
    rw [List.getElem_range] at hk2
    subst hk2
    refine ⟨show i < n by simpa using hk1, fun x H' ⟨hh, hx⟩ => ?_⟩
    subst hh hx
    exact ⟨.refl _ _, [], by simp [Rep], by simp⟩
  stop := fun i H _ hi => show n ≤ i by simpa using hi
theorem irng1_pi (ok : XOk X tb cf c) {a : Ex} {tg xa : Expr} {p pos : Pos} (hb : ckBlt tb c "range" = true) (ia : PE X xa (tI X.K cf a)) (hs : starEach [xa] X.env = [(false, eval xa X.env)]) : PI X tg (.Call (.Name "range" p) [xa] [] pos) (tII X.K cf (.irng1 a)) := by
  obtain ⟨hm, hg, _, _⟩ := ckBlt_ok ok hb
  refine ⟨fun pins s σ H R I ⟨ρ, fp, fz, items, ρ', sl, dj, e, k⟩ => ?_⟩
  simp only [evI] at e
  obtain ⟨x, ρ1, e1, e2⟩ := bind_inv e
  obtain ⟨hi, h0⟩ := of_inv e2
  subst h0
  clear e e2
  obtain ⟨d, n⟩ := x
  cases d <;> simp only [rngD, reduceCtorEq] at hi
  rename_i j
  split at hi
  · rename_i hc
    simp only [Bool.and_eq_true, decide_eq_true_eq] at hc
    cases hi
    refine (pi_range1 hg hm (pa_cons ia pa_nil hs) hs).run pins s σ H R I (step1 (q := quiet a) sl dj e1 (fun h => h) fun v H1 z1 f2 z2 r s2 d2 x2 => ?_)
    cases r.toInt
    refine ⟨j, rfl, hc.1.2, hc.2, k _ H1 (fun _ => True) [] f2 z2 ?_ trivial s2 ⟨d2.1, fun b m m' => d2.2 b m (List.mem_append_right _ m')⟩ (x2.to (fun b m => m) fun b m => .inr (List.mem_append_right _ m))⟩
    have := it_rng (K := X.K) 0 j.toNat
    simpa using this
  · cases hi
theorem irng2_pi (ok : XOk X tb cf c) {a b : Ex} {tg xa xb : Expr} {p pos : Pos} (hb : ckBlt tb c "range" = true) (ia : PE X xa (tI X.K cf a)) (ib : PE X xb (tI X.K cf b)) (hs : starEach [xa, xb] X.env = [(false, eval xa X.env), (false, eval xb X.env)]) (hs2 : starEach [xb] X.env = [(false, eval xb X.env)]) :
    PI X tg (.Call (.Name "range" p) [xa, xb] [] pos) (tII X.K cf (.irng2 a b)) := by
  obtain ⟨hm, hg, _, _⟩ := ckBlt_ok ok hb
  refine ⟨fun pins s σ H R I ⟨ρ, fp, fz, items, ρ', sl, dj, e, k⟩ => ?_⟩
  simp only [evI] at e
  obtain ⟨x, ρ1, e1, e0⟩ := bind_inv e
  obtain ⟨y, ρ2, e2, e3⟩ := bind_inv e0
  obtain ⟨hi, h0⟩ := of_inv e3
  subst h0
  clear e e3 e0
  obtain ⟨d, n⟩ := x
  obtain ⟨d', n'⟩ := y
  cases d <;> cases d' <;> simp only [rngD, reduceCtorEq] at hi
  rename_i i j
  split at hi
  · rename_i hc
    simp only [Bool.and_eq_true, decide_eq_true_eq] at hc
    cases hi
    refine (pi_range2 hg hm (pa_cons ia (pa_cons ib pa_nil hs2) (by rw [hs, hs2])) hs hs2).run pins s σ H R I (step2 (q := quiet (.irng2 a b)) sl dj e1 e2 (fun h => and_iff2 (by simpa only [quiet] using h)) fun v w H1 z1 z2 f2 z3 r1 r2 s2 d2 x2 => ?_)
    cases r1.toInt
    cases r2.toInt
    refine ⟨i, j, rfl, ⟨hc.1.1.1, hc.1.1.2, hc.1.2, hc.2⟩, k _ H1 _ [] f2 z3 (it_rng _ _) trivial s2 ⟨d2.1, fun b m m' => d2.2 b m (List.mem_append_right _ m')⟩ (x2.to (fun b m => m) fun b m => .inr (List.mem_append_right _ m))⟩
  · cases hi
theorem it_rngC {K : PySem.W.Frag} (lo c : Int) (n : Nat) : ItOk K (Itc lo c n) ((List.range n).map fun k => .int (lo + (k : Nat) * c)) (fun _ => True) [] where
  keep := fun W H H' s n h => trivial
  trk := fun H h b m q => absurd m List.not_mem_nil
  go := fun i H d _ hi => by
    rw [List.getElem?_map, Option.map_eq_some_iff] at hi
    obtain ⟨k, hk, rfl⟩ := hi
    obtain ⟨hk1, hk2⟩ := List.getElem?_eq_some_iff.mp hk
    rw [List.getElem_range] at hk2
    subst hk2
    refine ⟨show i < n by simpa using hk1, fun x H' ⟨hh, hx⟩ => ?_⟩
    subst hh hx
    exact ⟨.refl _ _, [], by simp [Rep], by simp⟩
  stop := fun i H _ hi => show n ≤ i by simpa using hi
theorem irng3_pi (ok : XOk X tb cf c) {a b d : Ex} {tg xa xb xd : Expr} {p pos : Pos} (hb : ckBlt tb c "range" = true) (ia : PE X xa (tI X.K cf a)) (ib : PE X xb (tI X.K cf b)) (id : PE X xd (tI X.K cf d)) (hs : starEach [xa, xb, xd] X.env = [(false, eval xa X.env), (false, eval xb X.env), (false, eval xd X.env)]) (hs2 : starEach [xb, xd] X.env = [(false, eval xb X.env), (false, eval xd X.env)]) (hs3 : starEach [xd] X.env = [(false, eval xd X.env)]) :
    PI X tg (.Call (.Name "range" p) [xa, xb, xd] [] pos) (tII X.K cf (.irng3 a b d)) := by
  obtain ⟨hm, hg, _, _⟩ := ckBlt_ok ok hb
  refine ⟨fun pins s σ H R I ⟨ρ, fp, fz, items, ρ', sl, dj, e, k⟩ => ?_⟩
  simp only [evI] at e
  obtain ⟨x, ρ1, e1, e0⟩ := bind_inv e
  obtain ⟨y, ρ2, e2, e00⟩ := bind_inv e0
  obtain ⟨w, ρ3, e3, e4⟩ := bind_inv e00
  obtain ⟨hi, h0⟩ := of_inv e4
  subst h0
  clear e e4 e0 e00
  have hq : quiet (.irng3 a b d) = true → quiet a = true ∧ quiet b = true ∧ quiet d = true := fun h => and_iff3 (by simpa only [quiet] using h)
  unfold rng3D at hi
  split at hi
  · rename_i i j l hx hy hw
    split at hi
    · rename_i hc
      simp only [Bool.and_eq_true, decide_eq_true_eq] at hc
      cases hi
      refine (pi_range3 hg hm (pa_cons ia (pa_cons ib (pa_cons id pa_nil hs3) (by rw [hs2, hs3])) (by rw [hs, hs2])) (by rw [hs, hs2]) (by rw [hs2]; rfl)).run pins s σ H R I
        (step2 (q := quiet (.irng3 a b d)) sl dj e1 e2 (fun h => ⟨(hq h).1, (hq h).2.1⟩) fun v u H1 z1 z2 f2 z3 r1 r2 s2 d2 x2 => step1 (q := quiet (.irng3 a b d)) s2 ⟨d2.1, fun b m m' => d2.2 b m (List.mem_append_right _ m')⟩ e3 (fun h => (hq h).2.2) fun t H2 z4 f3 z5 r3 s3 d3 x3 => ?_)
      rw [hx] at r1
      rw [hy] at r2
      rw [hw] at r3
      cases r1.toInt
      cases r2.toInt
      cases r3.toInt
      refine ⟨i, j, l, _, rfl, ⟨hc.1.1.1, hc.1.1.2, hc.1.2, (Int.toNat_of_nonneg hc.2).symm⟩, k _ H2 (fun _ => True) [] f3 z5 (it_rngC _ _ _) trivial s3 ⟨d3.1, fun b m m' => d3.2 b m (List.mem_append_right _ m')⟩ ((Ext.trans0 (x2.to (fun b m => m) fun b m => .inr (List.mem_append_right _ m)) x3).to (fun b m => m) fun b m => .inr (List.mem_append_right _ m))⟩
    · cases hi
  · cases hi
end
/-! ### targets -/
theorem wipe_set {σ : St} {i : Nat} {x : Option V} : ∀ {vs : List Nat}, i ∈ vs → wipe (σ.set i x) vs = wipe σ vs
  | [], m => absurd m List.not_mem_nil
  | v :: vs, m => by
    simp only [wipe]
    by_cases h : i ∈ vs
    · rw [wipe_set h]
    · have hv : i = v := (List.mem_cons.mp m).resolve_right h
      subst hv
      have : ∀ {vs : List Nat} {σ : St}, i ∉ vs → wipe (σ.set i x) vs = (wipe σ vs).set i x := by
        intro vs
        induction vs with
        | nil => intro σ _; rfl
        | cons w ws ih =>
          intro σ hn
          simp only [wipe]
          rw [ih (fun h => hn (List.mem_cons_of_mem _ h))]
          exact List.set_comm _ _ (fun h => hn (by rw [h]; exact List.mem_cons_self))
      rw [this h, List.set_set]
theorem st_big : ∀ (ρ : Env) (i : Nat) (x : Option Sl), ρ.length ≤ i → st ρ i x = ρ
  | [], _, _, _ => rfl
  | _ :: _, 0, _, h => by simp at h
  | y :: ρ, i + 1, x, h => by simp only [st]; rw [st_big ρ i x (by simpa using h)]
theorem SL.set2 {K : PySem.W.Frag} {H : Hp} {σ : St} {ρ : Env} {fp fz : List Addr} {i : Nat} {d : D} {n : Nat} {v : V} {f1 z1 : List Addr} (r : SL K H σ ρ fp fz) (rv : Rep K H d n v f1 z1) :
    ∃ f z, SL K H (σ.set i (some v)) (st ρ i (some (d, n))) f z ∧ Less (f1 ++ fp) (z1 ++ fz) f z := by
  by_cases hi : i < σ.length
  · exact SL.set r hi rv
  · have h2 := SL.len r
    rw [st_big _ _ _ (by omega), List.set_eq_of_length_le (by omega)]
    exact ⟨fp, fz, r, .by f1 (fun a => by simp only [List.count_append]; omega) fun a m => .inl (List.mem_append_right _ m)⟩
section
variable {X : Cx} {tb : Tb} {cf : Cf} {c : CkC}
/-- what storing d into the target does -/
def TgT (K : PySem.W.Frag) (tg : Tg) (g : TG) : Prop := ∀ (x : V) (σ : St) (H : Hp) (Q : St → Hp → Prop) (d : D) (ρ ρ2 : Env) (f z zx : List Addr), SL K H σ ρ f z → Rep K H d 0 x [] zx → setT tg d ρ = some ρ2 →
  (∀ σ2 f' z', SL K H σ2 ρ2 f' z' → Less f (zx ++ z) f' z' → (∀ vs, (∀ i ∈ tgSlots tg, i ∈ vs) → wipe σ2 vs = wipe σ vs) → Q σ2 H) → g x σ H Q
def gsName : List Nat → TGs
  | [] => gNil
  | i :: is => gCons (gName i) (gsName is)
theorem sls {K : PySem.W.Frag} {H : Hp} : ∀ {is : List Nat} {ds : List D} {xs : List V} {zx : List Addr} {σ : St} {ρ ρ2 : Env} {f z : List Addr} {Q : St → Hp → Prop}, SL K H σ ρ f z → RepL K H ds 0 xs [] zx → setT.go is ds ρ = some ρ2 →
    (∀ σ2 f' z', SL K H σ2 ρ2 f' z' → Less f (zx ++ z) f' z' → (∀ vs, (∀ i ∈ is, i ∈ vs) → wipe σ2 vs = wipe σ vs) → Q σ2 H) → gsName is xs σ H Q
  | [], [], xs, zx, σ, ρ, ρ2, f, z, Q, s, r, h, k => by
    simp only [RepL] at r
    obtain ⟨rfl, _, rfl⟩ := r
    cases h
    exact ⟨rfl, k σ f z s (by simpa using Less.refl f z) fun _ _ => rfl⟩
  | i :: is, d :: ds, xs, zx, σ, ρ, ρ2, f, z, Q, s, r, h, k => by
    simp only [RepL] at r
    obtain ⟨x, xs', g1, g2, y1, y2, rfl, hg, rfl, r1, r2⟩ := r
    have h1 : g1 = [] := (List.append_eq_nil_iff.mp hg.symm).1
    have h2 : g2 = [] := (List.append_eq_nil_iff.mp hg.symm).2
    subst h1 h2
    obtain ⟨f', z', s', l⟩ := SL.set2 (i := i) s r1
    refine ⟨x, xs', rfl, ?_⟩
    refine sls s' r2 (by simpa only [setT.go] using h) fun σ2 f2 z2 s2 l2 hw => k σ2 f2 z2 s2 ?_ fun vs hv => ?_
    · obtain ⟨m1, p1, q1⟩ := l
      obtain ⟨m2, p2, q2⟩ := l2
      refine .by (m2 ++ m1) (fun a => ?_) fun a m => ?_
      · have := cnt_perm p1 a
        have := cnt_perm p2 a
        simp only [List.count_append, List.nil_append] at *
        omega
      · rcases q2 a m with q | q
        · rcases List.mem_append.mp q with q | q
          · exact .inl (by simp [q])
          · rcases q1 a q with q | q
            · exact .inl (by rcases List.mem_append.mp q with q | q <;> simp [q])
            · exact .inr (by simp [q])
        · exact .inr (by simp [q])
    · rw [hw vs fun j m => hv j (List.mem_cons_of_mem _ m)]
      exact wipe_set (hv i (by simp))
  | [], _ :: _, _, _, _, _, _, _, _, _, _, _, h, _ => by simp [setT.go] at h
  | _ :: _, [], _, _, _, _, _, _, _, _, _, _, h, _ => by simp [setT.go] at h
theorem asgn_nostar {x : Str} {p : Pos} {es : List Expr} {env : PySem.Env} : assignEach (.Name x p :: es) env = (false, assign (.Name x p) env) :: assignEach es env := rfl
theorem pgs_go (ok : XOk X tb cf c) : ∀ {l : List Nat} {xs : List Expr}, ckTg.go c l xs = true → PGs X xs (gsName l) ∧ (assignEach xs X.env).length = l.length ∧ (assignEach xs X.env).findIdx? (·.1) = none
  | [], [], _ => ⟨pgs_nil, rfl, rfl⟩
  | i :: is, x :: xs, h => by
    cases x <;> simp only [ckTg.go, Bool.false_eq_true] at h
    rename_i n p
    simp only [Bool.and_eq_true] at h
    obtain ⟨a, b, d⟩ := pgs_go ok h.2
    refine ⟨pgs_cons (ckTgt_ok ok h.1) a rfl, ?_, ?_⟩
    · rw [asgn_nostar]; simp [b]
    · rw [asgn_nostar, List.findIdx?_cons]; simp [d]
  | [], _ :: _, h => by simp [ckTg.go] at h
  | _ :: _, [], h => by simp [ckTg.go] at h
def g1 (K : PySem.W.Frag) : Tg1 → TG
  | .nm i => gName i
  | .tp l => gTup K l.length (gsName l)
def gs1 (K : PySem.W.Frag) : List Tg1 → TGs
  | [] => gNil
  | t :: ts => gCons (g1 K t) (gs1 K ts)
theorem go_len : ∀ (is : List Nat) (ds : List D) (ρ ρ2 : Env), setT.go is ds ρ = some ρ2 → ds.length = is.length := by
  intro is
  induction is with
  | nil => intro ds ρ ρ2 h; cases ds <;> simp [setT.go] at h ⊢
  | cons i is ih => intro ds ρ ρ2 h; cases ds <;> simp only [setT.go, reduceCtorEq] at h; simp [ih _ _ _ h]
theorem go1_len : ∀ (is : List Tg1) (ds : List D) (ρ ρ2 : Env), setT.go1 is ds ρ = some ρ2 → ds.length = is.length := by
  intro is
  induction is with
  | nil => intro ds ρ ρ2 h; cases ds <;> simp [setT.go1] at h ⊢
  | cons i is ih =>
    intro ds ρ ρ2 h
    cases ds with
    | nil => cases i <;> simp [setT.go1] at h
    | cons d ds =>
      cases i with
      | nm i => simp only [setT.go1] at h; simp [ih _ _ _ h]
      | tp l =>
        cases d <;> simp only [setT.go1, reduceCtorEq] at h
        split at h
        · simp [ih _ _ _ h]
        · cases h
theorem less_step {f z zx f' z' f2 z2 : List Addr} {y1 y2 : List Addr} (hz : zx = y1 ++ y2) (l : Less f (y1 ++ z) f' z') (l2 : Less f' (y2 ++ z') f2 z2) : Less f (zx ++ z) f2 z2 := by
  subst hz
  obtain ⟨m1, p1, q1⟩ := l
  obtain ⟨m2, p2, q2⟩ := l2
  refine .by (m2 ++ m1) (fun a => ?_) fun a m => ?_
  · have := cnt_perm p1 a
    have := cnt_perm p2 a
    simp only [List.count_append, List.nil_append] at *
    omega
  · rcases q2 a m with q | q
    · rcases List.mem_append.mp q with q | q
      · exact .inl (by simp [q])
      · rcases q1 a q with q | q
        · exact .inl (by rcases List.mem_append.mp q with q | q <;> simp [q])
        · exact .inr (by simp [q])
    · exact .inr (by simp [q])
theorem sls1 {K : PySem.W.Frag} {H : Hp} : ∀ {is : List Tg1} {ds : List D} {xs : List V} {zx : List Addr} {σ : St} {ρ ρ2 : Env} {f z : List Addr} {Q : St → Hp → Prop}, SL K H σ ρ f z → RepL K H ds 0 xs [] zx → setT.go1 is ds ρ = some ρ2 →
    (∀ σ2 f' z', SL K H σ2 ρ2 f' z' → Less f (zx ++ z) f' z' → (∀ vs, (∀ i ∈ is.flatMap tg1Slots, i ∈ vs) → wipe σ2 vs = wipe σ vs) → Q σ2 H) → gs1 K is xs σ H Q
  | [], [], xs, zx, σ, ρ, ρ2, f, z, Q, s, r, h, k => by
    simp only [RepL] at r
    obtain ⟨rfl, _, rfl⟩ := r
    cases h
    exact ⟨rfl, k σ f z s (by simpa using Less.refl f z) fun _ _ => rfl⟩
  | i :: is, d :: ds, xs, zx, σ, ρ, ρ2, f, z, Q, s, r, h, k => by
    simp only [RepL] at r
    obtain ⟨x, xs', g1', g2, y1, y2, rfl, hg, hz, r1, r2⟩ := r
    have h1 : g1' = [] := (List.append_eq_nil_iff.mp hg.symm).1
    have h2 : g2 = [] := (List.append_eq_nil_iff.mp hg.symm).2
    subst h1 h2
    cases i with
    | nm i =>
      obtain ⟨f', z', s', l⟩ := SL.set2 (i := i) s r1
      refine ⟨x, xs', rfl, ?_⟩
      refine sls1 s' r2 (by simpa only [setT.go1] using h) fun σ2 f2 z2 s2 l2 hw => k σ2 f2 z2 s2 (less_step hz (by simpa using l) l2) fun vs hv => ?_
      rw [hw vs fun j m => hv j (by simp [List.flatMap_cons, m])]
      exact wipe_set (hv i (by simp [tg1Slots]))
    | tp l =>
      cases d <;> simp only [setT.go1, reduceCtorEq] at h
      rename_i ls
      split at h
      · rename_i ρ' he
        obtain ⟨a, vs, rfl, hh, rl⟩ := r1.toTup
        refine ⟨_, xs', rfl, a, vs, rfl, SqT.of hh, by rw [RepL.len rl]; exact go_len _ _ _ _ he, ?_⟩
        refine sls s rl he fun σ1 f1 z1 s1 l1 hw1 => ?_
        refine sls1 s1 r2 h fun σ2 f2 z2 s2 l2 hw => k σ2 f2 z2 s2 (less_step hz l1 l2) fun vs hv => ?_
        rw [hw vs fun j m => hv j (by simp [List.flatMap_cons, m])]
        exact hw1 vs fun j m => hv j (by simp [List.flatMap_cons, tg1Slots, m])
      · cases h
  | [], _ :: _, _, _, _, _, _, _, _, _, _, _, h, _ => by simp [setT.go1] at h
  | i :: _, [], _, _, _, _, _, _, _, _, _, _, h, _ => by cases i <;> simp [setT.go1] at h
theorem asgn_nostarT {ys : List Expr} {k : Nat} {p : Pos} {es : List Expr} {env : PySem.Env} : assignEach (.Tuple ys k p :: es) env = (false, assign (.Tuple ys k p) env) :: assignEach es env := rfl
theorem pgs_go1 (ok : XOk X tb cf c) : ∀ {l : List Tg1} {xs : List Expr}, ckTg.go1 c l xs = true → PGs X xs (gs1 X.K l) ∧ (assignEach xs X.env).length = l.length ∧ (assignEach xs X.env).findIdx? (·.1) = none
  | [], [], _ => ⟨pgs_nil, rfl, rfl⟩
  | .nm i :: is, x :: xs, h => by
    cases x <;> simp only [ckTg.go1, Bool.false_eq_true] at h
    rename_i n p
    simp only [Bool.and_eq_true] at h
    obtain ⟨a, b, d⟩ := pgs_go1 ok h.2
    refine ⟨pgs_cons (ckTgt_ok ok h.1) a rfl, ?_, ?_⟩
    · rw [asgn_nostar]; simp [b]
    · rw [asgn_nostar, List.findIdx?_cons]; simp [d]
  | .tp l :: is, x :: xs, h => by
    cases x <;> simp only [ckTg.go1, Bool.false_eq_true] at h
    rename_i ys k p
    simp only [Bool.and_eq_true] at h
    obtain ⟨a, b, d⟩ := pgs_go1 ok h.2
    obtain ⟨a', b', d'⟩ := pgs_go ok h.1
    refine ⟨pgs_cons (pg_tup ok.calm a' b' d') a rfl, ?_, ?_⟩
    · rw [asgn_nostarT]; simp [b]
    · rw [asgn_nostarT, List.findIdx?_cons]; simp [d]
  | [], _ :: _, h => by simp [ckTg.go1] at h
  | i :: _, [], h => by cases i <;> simp [ckTg.go1] at h
def tgG (K : PySem.W.Frag) : Tg → TG
  | .nm i => gName i
  | .tp l => gTup K l.length (gsName l)
  | .tn l => gTup K l.length (gs1 K l)
theorem tg_ok (ok : XOk X tb cf c) {tg : Tg} {xt : Expr} (h : ckTg c tg xt = true) : PG X xt (tgG X.K tg) ∧ TgT X.K tg (tgG X.K tg) := by
  cases tg with
  | nm i =>
    cases xt <;> simp only [ckTg, Bool.false_eq_true] at h
    refine ⟨ckTgt_ok ok h, fun x σ H Q d ρ ρ2 f z zx s r e k => ?_⟩
    cases e
    obtain ⟨f', z', s', l⟩ := SL.set2 (i := i) s r
    exact k _ f' z' s' (by simpa using l) fun vs hv => wipe_set (hv i (by simp [tgSlots]))
  | tp l =>
    cases xt <;> simp only [ckTg, Bool.false_eq_true] at h
    rename_i es kk pp
    obtain ⟨a, b, d⟩ := pgs_go ok h
    refine ⟨pg_tup ok.calm a b d, fun x σ H Q d ρ ρ2 f z zx s r e k => ?_⟩
    simp only [setT] at e
    split at e
    · rename_i ds
      obtain ⟨a, vs, rfl, h, rl⟩ := r.toTup
      exact ⟨a, vs, rfl, SqT.of h, by rw [RepL.len rl]; exact go_len _ _ _ _ e, sls s rl e k⟩
    · cases e
  | tn l =>
    cases xt <;> simp only [ckTg, Bool.false_eq_true] at h
    rename_i es kk pp
    obtain ⟨a, b, d⟩ := pgs_go1 ok h
    refine ⟨pg_tup ok.calm a b d, fun x σ H Q d ρ ρ2 f z zx s r e k => ?_⟩
    simp only [setT] at e
    split at e
    · rename_i ds
      obtain ⟨a, vs, rfl, h, rl⟩ := r.toTup
      exact ⟨a, vs, rfl, SqT.of h, by rw [RepL.len rl]; exact go1_len _ _ _ _ e, sls1 s rl e k⟩
    · cases e
end
end Pi
/-! Pi16: displays of dicts, list comprehensions. -/
namespace Pi
open PySem L2
/-! ### a new object that is written later -/
section
variable {K : PySem.W.Frag} {b : Bool} {H H1 H2 : Hp} {fp fz F Z : List Addr} {p : Addr}
theorem Ext.new {o : HO} (x : Ext b H fp fz H1 F Z) (hp : H1 p = Option.none) : Ext b H fp fz (upd H1 p o) (p :: F) Z :=
  ⟨fun a u h n => Stay.new hp a u (x.stay a u h n) (fun m => absurd m List.not_mem_nil), fun a m => by
    rcases List.mem_cons.mp m with rfl | m
    · exact (x.some hp).symm
    · exact x.fpx a m, x.fzx⟩
theorem Ext.wr (x : Ext b H fp fz H1 F Z) (hp : p ∈ F) (hn : b = true → H p = Option.none) (s : Stay [p] H1 H2) : Ext b H fp fz H2 F Z := by
  refine ⟨fun a o h n => s a o (x.stay a o h n) fun m => ?_, x.fpx, x.fzx⟩
  rw [List.mem_singleton.mp m] at h n
  cases b with
  | true => rw [hn rfl] at h; cases h
  | false =>
    rcases x.fpx p hp with q | q
    · exact n q
    · rw [q] at h; cases h
theorem Ext.pre {o : HO} (hp : H p = Option.none) (t : Trk H fp) (t' : Trk H fz) (x : Ext b (upd H p o) fp fz H1 F Z) : Ext b H fp fz H1 F Z ∧ p ∉ F ∧ p ∉ Z := by
  have n1 : p ∉ fp := fun m => t p m hp
  have n2 : p ∉ fz := fun m => t' p m hp
  refine ⟨⟨fun a u h n => x.stay a u (Stay.new hp a u h fun m => absurd m List.not_mem_nil) n, fun a m => ?_, fun a m => ?_⟩, fun m => ?_, fun m => ?_⟩
  · refine (x.fpx a m).imp id fun h => ?_
    have : a ≠ p := fun e => by rw [e, upd_same] at h; cases h
    rwa [upd_ne this] at h
  · refine (x.fzx a m).imp id fun h => h.imp id fun h => ?_
    have : a ≠ p := fun e => by rw [e, upd_same] at h; cases h
    rwa [upd_ne this] at h
  · rcases x.fpx p m with h | h
    · exact n1 h
    · rw [upd_same] at h; cases h
  · rcases x.fzx p m with h | h | h
    · exact n1 h
    · exact n2 h
    · rw [upd_same] at h; cases h
end
/-! ### dicts -/
def pairUp : List V → List (V × V)
  | x :: y :: r => (x, y) :: pairUp r
  | _ => []
section
variable {K : PySem.W.Frag} {H : Hp}
theorem rep_key {d : D} {k : Key} {n : Nat} {v : V} {f z : List Addr} (r : Rep K H d n v f z) (h : isKey d = some k) : v = kV k ∧ f = [] ∧ z = [] := by
  cases d <;> simp only [isKey, reduceCtorEq, Option.some.injEq] at h <;> (subst h; simp only [Rep] at r; exact r)
theorem pairs_rep {n : Nat} : ∀ {ds : List D} {ps : List (Key × D)} {vs : List V} {f z : List Addr}, RepL K H ds n vs f z → pairsK ds = some ps → ∃ kvs : List (Key × V), pairUp vs = kvs.map (fun kv => (kV kv.1, kv.2)) ∧ RepK K H ps n kvs f z ∧ ps.length * 2 = ds.length
  | [], ps, vs, f, z, r, h => by
    simp only [RepL] at r
    obtain ⟨rfl, rfl, rfl⟩ := r
    cases h
    exact ⟨[], rfl, by simp [RepK], rfl⟩
  | [_], ps, vs, f, z, r, h => by simp [pairsK] at h
  | a :: b :: ds, ps, vs, f, z, r, h => by
    simp only [RepL] at r
    obtain ⟨v, vs', f1, f2, z1, z2, rfl, rfl, rfl, r1, w, vs2, f3, f4, z3, z4, rfl, rfl, rfl, r2, r3⟩ := r
    simp only [pairsK] at h
    split at h
    · rename_i k ps' hk hps
      cases h
      obtain ⟨rfl, rfl, rfl⟩ := rep_key r1 hk
      obtain ⟨kvs, e, rk, hl⟩ := pairs_rep r3 hps
      refine ⟨(k, w) :: kvs, by simp [pairUp, e], ?_, by simp; omega⟩
      simp only [RepK]
      exact ⟨w, kvs, f3, f4, z3, z4, rfl, by simp, by simp, r2, rk⟩
    · cases h
theorem merge_rep {n : Nat} : ∀ {ps acc : List (Key × D)} {kp ka : List (Key × V)} {f z f2 z2 : List Addr}, RepK K H acc n ka f z → RepK K H ps n kp f2 z2 → ∃ f' z', RepK K H (mergeD acc ps) n (mergeD ka kp) f' z' ∧ Less (f2 ++ f) (z2 ++ z) f' z'
  | [], acc, kp, ka, f, z, f2, z2, r, s => by
    simp only [RepK] at s
    obtain ⟨rfl, rfl, rfl⟩ := s
    exact ⟨f, z, r, by simpa using Less.refl f z⟩
  | (k, d) :: ps, acc, kp, ka, f, z, f2, z2, r, s => by
    simp only [RepK] at s
    obtain ⟨v, kp', g1, g2, y1, y2, rfl, rfl, rfl, s1, s2⟩ := s
    obtain ⟨f3, z3, r3, m1, p1, q1⟩ := RepK.put k r s1
    obtain ⟨f4, z4, r4, m2, p2, q2⟩ := merge_rep r3 s2
    refine ⟨f4, z4, r4, .by (m2 ++ m1) (fun a => ?_) fun a m => ?_⟩
    · have := cnt_perm p1 a
      have := cnt_perm p2 a
      simp only [List.count_append] at *
      omega
    · rcases q2 a m with q | q
      · rcases List.mem_append.mp q with q | q
        · exact .inl (by simp [q])
        · rcases q1 a q with q | q
          · exact .inl (by rcases List.mem_append.mp q with q | q <;> simp [q])
          · exact .inr (by simp [q])
      · exact .inr (by simp [q])
end
section
variable {κ : Type} [DecidableEq κ]
theorem putK_eq (k : κ) (v : V) : ∀ {l : List (κ × V)}, (l.map (·.1)).Nodup → putK l k v = putD l k v
  | [], _ => by simp [putK, putD]
  | p :: r, h => by
    have h2 := List.nodup_cons.mp h
    by_cases hp : p.1 = k
    · have hr : r.map (fun kv => if kv.1 = k then (kv.1, v) else kv) = r := by
        refine (List.map_congr_left fun q m => ?_).trans (List.map_id r)
        have : q.1 ≠ k := fun e => h2.1 (by show p.1 ∈ r.map (·.1); rw [hp, ← e]; exact List.mem_map_of_mem m)
        rw [if_neg this]; rfl
      have ha : ((p :: r).any fun kv => decide (kv.1 = k)) = true := by simp [hp]
      unfold putK
      rw [if_pos ha]
      simp only [putD, if_pos hp, List.map_cons, hr]
    · have ih := putK_eq k v (l := r) h2.2
      have ha : ((p :: r).any fun kv => decide (kv.1 = k)) = (r.any fun kv => decide (kv.1 = k)) := by simp [hp]
      simp only [putD, if_neg hp]
      rw [← ih]
      unfold putK
      rw [ha]
      split
      · simp only [List.map_cons, if_neg hp]
      · simp
theorem putD_keys (k : κ) (v : V) : ∀ (l : List (κ × V)), (putD l k v).map (·.1) = l.map (·.1) ∨ (k ∉ l.map (·.1) ∧ (putD l k v).map (·.1) = l.map (·.1) ++ [k])
  | [] => .inr ⟨by simp, rfl⟩
  | p :: r => by
    by_cases hp : p.1 = k
    · exact .inl (by simp [putD, hp])
    · rcases putD_keys k v r with h | ⟨h, h'⟩
      · exact .inl (by simp only [putD, if_neg hp, List.map_cons, h])
      · refine .inr ⟨fun m => (List.mem_cons.mp m).elim (fun e => hp e.symm) h, by simp only [putD, if_neg hp, List.map_cons, h', List.cons_append]⟩
theorem putD_nodup (k : κ) (v : V) {l : List (κ × V)} (h : (l.map (·.1)).Nodup) : ((putD l k v).map (·.1)).Nodup := by
  rcases putD_keys k v l with e | ⟨n, e⟩ <;> rw [e]
  · exact h
  · exact List.nodup_append.mpr ⟨h, by simp, fun a m b m' => by rw [List.mem_singleton.mp m']; rintro rfl; exact n m⟩
end
theorem mergeK_eq : ∀ (more acc : List (Key × V)), (acc.map (·.1)).Nodup → mergeK acc more = mergeD acc more
  | [], acc, _ => rfl
  | (k, v) :: r, acc, h => by
    show mergeK (putK acc k v) r = mergeD (putD acc k v) r
    rw [putK_eq k v h]
    exact mergeK_eq r _ (putD_nodup k v h)
section
variable {X : Cx} {tb : Tb} {cf : Cf} {c : CkC}
theorem tI_mono {K : PySem.W.Frag} {e : Ex} {σ : St} {H : Hp} {Q Q' : VK} (h : ∀ v H', Q v H' → Q' v H') (t : tI K cf e σ H Q) : tI K cf e σ H Q' := by
  obtain ⟨ρ, fp, fz, d, ρ', s, dj, e, p⟩ := t
  exact ⟨ρ, fp, fz, d, ρ', s, dj, e, fun v H' f1 z1 f2 z2 a b c d e => h v H' (p v H' f1 z1 f2 z2 a b c d e)⟩
structure DOk (X : Cx) (cf : Cf) (l : Ex) (ks : List (Option Expr)) (vs : List Expr) : Prop where
  ex : ∃ trs, (∀ pos, PPs X pos ks vs trs) ∧ ∀ σ H Q, tIA X.K cf l σ H (fun xs H' => Q (pairUp xs) H') → tPairs trs σ H Q
  all : ks.all (·.isSome) = true
  len : ks.length = vs.length
theorem dok_nil : DOk X cf .nil [] [] := ⟨⟨[], fun _ => pps_nil, fun σ H Q h => by
  obtain ⟨_, q⟩ : [] = ([] : List V) ∧ Q [] H := ⟨rfl, nil_tA σ H _ h⟩
  exact q⟩, rfl, rfl⟩
theorem dok_cons {k v r : Ex} {xk xv : Expr} {ks : List (Option Expr)} {vs : List Expr} (nk : ∀ i, k ≠ .lend i) (nv : ∀ i, v ≠ .lend i) (ik : PE X xk (tI X.K cf k)) (iv : PE X xv (tI X.K cf v)) (ir : DOk X cf r ks vs) : DOk X cf (.cons k (.cons v r)) (some xk :: ks) (xv :: vs) := by
  obtain ⟨trs, a, b⟩ := ir.ex
  refine ⟨⟨(tI X.K cf k, tI X.K cf v) :: trs, fun pos => pps_cons ik iv (a pos), fun σ H Q h => ?_⟩, by simpa using ir.all, by simpa using ir.len⟩
  have h1 := cons_tA nk σ H _ h
  refine tI_mono (fun x H1 h2 => ?_) h1
  have h3 := cons_tA nv σ H1 _ h2
  exact tI_mono (fun y H2 h4 => b σ H2 _ h4) h3
theorem dict_nil_pe {k : Nat} {pos : Pos} : PE X (.Dict [] [] pos) (tI X.K cf (.dict k .nil)) := by
  refine pe_imp pe_dnewK fun σ H Q ⟨ρ, fp, fz, d, ρ', s, dj, e, p⟩ q hq => ?_
  simp only [ev, evA, valsA, Rs.of, Rs.bind, List.all_nil, Bool.true_and, List.length_nil, demL, List.map_nil, pairsK, mergeD, Nat.zero_le, decide_true, if_true] at e
  cases e
  have t := s.trk
  have nf : q ∉ fp := fun m => t.1 q m hq
  have nz : q ∉ fz := fun m => t.2 q m hq
  refine p (.ref q) _ [q] [] fp fz (Rep.mkK (g := []) upd_same (by simp [RepK])) (SL.stay (.new hq) s (by simp) (by simp)) ⟨?_, fun a m => ?_⟩ ((Ext.refl _ _ _ _).new hq) (fun _ a m => by rw [List.mem_singleton.mp m]; exact hq)
  · exact List.nodup_cons.mpr ⟨nf, dj.1⟩
  · rcases List.mem_cons.mp m with rfl | m
    · exact nz
    · exact dj.2 a m
theorem dict_pe {k : Nat} {l : Ex} {ks : List (Option Expr)} {vs : List Expr} {pos : Pos} (il : DOk X cf l ks vs) (h0 : ks ≠ []) (h15 : ks.length ≤ 15) : PE X (.Dict ks vs pos) (tI X.K cf (.dict k l)) := by
  obtain ⟨trs, a, b⟩ := il.ex
  refine pe_imp (pe_disp (a pos) il.all il.len h0 h15) fun σ H Q ⟨ρ, fp, fz, d, ρ', s, dj, e, p⟩ q hq => ?_
  simp only [ev] at e
  obtain ⟨xs, ρ1, e1, e2⟩ := bind_inv e
  obtain ⟨as, ρ0, e3, e4⟩ := bind_inv e1
  obtain ⟨hv, h0'⟩ := of_inv e4
  subst h0'
  clear e e1 e4
  split at e2
  · rename_i hc
    simp only [Bool.and_eq_true, decide_eq_true_eq] at hc
    split at e2
    · rename_i ps hps
      cases e2
      have t := s.trk
      refine b σ _ _ ⟨ρ, fp, fz, as, _, SL.stay (.new hq) s (by simp) (by simp), dj, e3, fun ws H1 f1 z1 f2 z2 al s2 d2 x2 n2 => ?_⟩
      obtain ⟨x3, np, nz⟩ := Ext.pre hq t.1 t.2 x2
      have hq1 : H1 q = some (.dK []) := x2.stay q _ upd_same fun m => absurd (wset_sub q m) fun m => t.1 q m hq
      have sv := vals_al hv al
      obtain ⟨f1', z1', rl, l1⟩ := sl_repL k sv hc.1
      obtain ⟨kvs, hup, rk, hlen⟩ := pairs_rep rl hps
      obtain ⟨f5, z5, rm, l5⟩ := merge_rep (acc := []) (ka := []) (f := []) (z := []) (by simp [RepK]) rk
      have l6 : Less f1 z1 f5 z5 := l1.trans (by simpa using l5)
      have hkl : kvs.length ≤ 15 := by
        have := RepK.len rk
        have h2 : (demL xs).length = xs.length := by simp [demL]
        omega
      refine ⟨hq1, kvs, hup, hkl, ?_⟩
      rw [mergeK_eq _ _ (by simp)]
      have hst : Stay [q] H1 (upd H1 q (.dK (mergeD [] kvs))) := stay_upd [] (by rw [hq1]; simp) (by rw [hq1]; exact trivial)
      have nf1 : q ∉ f1 := fun m => np (List.mem_append_left _ m)
      have nz1 : q ∉ z1 := fun m => nz (List.mem_append_left _ m)
      have nf5 : q ∉ f5 := fun m => nf1 (l6.fp q m)
      have nz5 : q ∉ z5 := fun m => (l6.fz q m).elim nz1 nf1
      have rm' := RepK.stay hst _ _ _ _ _ rm (fun a m h => by rw [List.mem_singleton.mp h] at m; exact nf5 m) (fun a m h => by rw [List.mem_singleton.mp h] at m; exact nz5 m)
      have s2' := SL.stay hst s2 (fun a m h => by rw [List.mem_singleton.mp h] at m; exact np (List.mem_append_right _ m)) (fun a m h => by rw [List.mem_singleton.mp h] at m; exact nz (List.mem_append_right _ m))
      have l7 := l6.app (Less.refl f2 z2)
      have d7 := l7.disj d2
      have x7 : Ext (quiet l) H fp fz (upd H1 q (.dK (mergeD [] kvs))) (q :: (f5 ++ f2)) (z5 ++ z2) := by
        refine ⟨fun a o h n => ?_, fun a m => ?_, fun a m => (x3.less l7).fzx a m⟩
        · have hne : a ≠ q := fun e => by rw [e, hq] at h; cases h
          rw [upd_ne hne]
          exact x3.stay a o h n
        · rcases List.mem_cons.mp m with rfl | m
          · exact .inr hq
          · exact (x3.less l7).fpx a m
      refine p (.ref q) _ (q :: f5) z5 f2 z2 (Rep.mkK upd_same rm') s2' ⟨?_, fun a m => ?_⟩ x7 (fun h a m => ?_)
      · exact List.nodup_cons.mpr ⟨fun m => (List.mem_append.mp m).elim nf5 fun m => np (List.mem_append_right _ m), d7.1⟩
      · rcases List.mem_cons.mp m with rfl | m
        · exact fun m => (List.mem_append.mp m).elim nz5 fun m => nz (List.mem_append_right _ m)
        · exact d7.2 a m
      · rcases List.mem_cons.mp m with rfl | m
        · exact hq
        · have h2 := n2 h a (l6.fp a m)
          have hne : a ≠ q := fun e => by rw [e, upd_same] at h2; cases h2
          rwa [upd_ne hne] at h2
    · cases e2
  · cases e2
end
end Pi
/-! Pi17: list comprehensions. -/
namespace Pi
open PySem L2
theorem wipe_get {σ : St} {i : Nat} : ∀ {vs : List Nat}, i ∉ vs → (wipe σ vs)[i]? = σ[i]? := fun h => wipe_out h
theorem wipe_wipe {σ : St} : ∀ (vs ws : List Nat), (∀ v ∈ vs, v ∈ ws) → wipe (wipe σ ws) vs = wipe σ ws
  | [], ws, _ => rfl
  | v :: vs, ws, h => by
    simp only [wipe]
    rw [wipe_wipe vs ws fun u m => h u (List.mem_cons_of_mem _ m)]
    have hm := h v (by simp)
    clear h
    induction ws with
    | nil => exact absurd hm List.not_mem_nil
    | cons w ws ih =>
      simp only [wipe]
      by_cases hw : v = w
      · subst hw; rw [List.set_set]
      · have := ih ((List.mem_cons.mp hm).resolve_left hw)
        rw [List.set_comm _ _ (fun h => hw h.symm), this]
theorem gt_wp (ρ : Env) : ∀ (vs : List Nat) (v : Nat), v ∈ vs → gt (wp ρ vs) v = none
  | [], v, h => absurd h List.not_mem_nil
  | w :: vs, v, h => by
    simp only [wp]
    by_cases hw : v = w
    · subst hw
      by_cases hl : v < (wp ρ vs).length
      · exact gt_st_same _ _ _ hl
      · rw [gt_get]
        rw [List.getElem?_eq_none (by rw [st_len]; omega)]; rfl
    · rw [gt_st_ne _ _ _ _ hw]
      exact gt_wp ρ vs v ((List.mem_cons.mp h).resolve_left hw)
section
variable {K : PySem.W.Frag} {H : Hp}
theorem SL.wipe {σ : St} {ρ : Env} {f z : List Addr} (s : SL K H σ ρ f z) : ∀ (vs : List Nat), ∃ f' z', SL K H (wipe σ vs) (wp ρ vs) f' z' ∧ Less f z f' z'
  | [] => ⟨f, z, s, .refl _ _⟩
  | v :: vs => by
    obtain ⟨f1, z1, s1, l1⟩ := SL.wipe s vs
    obtain ⟨f2, z2, s2, l2⟩ := SL.drop v s1
    exact ⟨f2, z2, SL.other none s2, l1.trans l2⟩
theorem SL.cong : ∀ {σ σ' : St} {ρ : Env} {f z : List Addr}, SL K H σ ρ f z → σ'.length = σ.length → (∀ i, gt ρ i ≠ none → σ'[i]? = σ[i]?) → SL K H σ' ρ f z
  | [], σ', [], f, z, s, hl, h => by
    cases σ' with
    | nil => exact s
    | cons _ _ => simp at hl
  | x :: σ, σ', none :: ρ, f, z, s, hl, h => by
    cases σ' with
    | nil => simp at hl
    | cons y σ' => exact SL.cong (σ := σ) (σ' := σ') (ρ := ρ) s (by simpa using hl) fun i hi => by simpa using h (i + 1) hi
  | x :: σ, σ', some (d, n) :: ρ, f, z, s, hl, h => by
    cases σ' with
    | nil => simp at hl
    | cons y σ' =>
      obtain ⟨v, f1, f2, z1, z2, e, e1, e2, r, s⟩ := s
      have h0 : y = x := by simpa using h 0 (by simp [gt])
      exact ⟨v, f1, f2, z1, z2, by rw [h0]; exact e, e1, e2, r, SL.cong (σ := σ) (σ' := σ') (ρ := ρ) s (by simpa using hl) fun i hi => by simpa using h (i + 1) hi⟩
  | [], _, _ :: _, _, _, s, _, _ => s.elim
  | _ :: _, _, [], _, _, s, _, _ => s.elim
theorem rep_keepI {d : D} {n : Nat} {v : V} {f z : List Addr} {d' : D} {n' : Nat} (r : Rep K H d n v f z) (h : keepI (some (d, n)) = some (d', n')) (H' : Hp) : Rep K H' d' n' v [] [] := by
  cases d <;> simp only [keepI, reduceCtorEq, Option.some.injEq, Prod.mk.injEq] at h <;> (obtain ⟨rfl, rfl⟩ := h; simp only [Rep] at r ⊢; simp [r])
/-- the block's own slots as before -/
theorem rst_ok {H1 : Hp} {σ : St} {ρ1 ρ : Env} {f1 z1 F Z : List Addr} (s : SL K H σ ρ F Z) (s1 : SL K H1 σ ρ1 f1 z1) : ∀ (vs : List Nat), (∀ v ∈ vs, gt ρ v = none) → ∃ F' Z', SL K H σ (rst ρ1 ρ vs) F' Z' ∧ F.Perm F' ∧ Z.Perm Z'
  | [], _ => ⟨F, Z, s, .refl _, .refl _⟩
  | v :: vs, h => by
    obtain ⟨F1, Z1, s2, p, q⟩ := rst_ok s s1 vs fun u m => h u (List.mem_cons_of_mem _ m)
    have hdrop := SL.drop v s2
    simp only [rst]
    by_cases hn : gt (rst ρ1 ρ vs) v = none
    · have e := st_none _ _ hn
      cases hk : keepI (gt ρ1 v) with
      | none => rw [e]; exact ⟨F1, Z1, s2, p, q⟩
      | some s0 =>
        cases hg : gt ρ1 v with
        | none => rw [hg] at hk; cases hk
        | some t0 =>
          obtain ⟨d, n⟩ := t0
          obtain ⟨d', n'⟩ := s0
          obtain ⟨w, _, _, _, _, hσ, r, _⟩ := SL.take s1 hg
          rw [hg] at hk
          rw [← e] at s2
          obtain ⟨F2, Z2, s3, p3, q3⟩ := SL.fill s2 hσ (rep_keepI r hk H)
          exact ⟨F2, Z2, s3, p.trans (by simpa using p3), q.trans (by simpa using q3)⟩
    · -- the slot was restored before: the same value
      have hv : v ∈ vs := by
        refine Classical.byContradiction fun hv => hn ?_
        have : ∀ ws : List Nat, v ∉ ws → gt (rst ρ1 ρ ws) v = gt ρ v := by
          intro ws
          induction ws with
          | nil => intro _; rfl
          | cons w ws ih =>
            intro hw
            simp only [rst]
            rw [gt_st_ne _ _ _ _ (fun e => hw (by rw [e]; exact List.mem_cons_self))]
            exact ih fun m => hw (List.mem_cons_of_mem _ m)
        rw [this vs hv]
        exact h v (by simp)
      have hsame : st (rst ρ1 ρ vs) v (keepI (gt ρ1 v)) = rst ρ1 ρ vs := by
        have hg : gt (rst ρ1 ρ vs) v = keepI (gt ρ1 v) := by
          have : ∀ ws : List Nat, v ∈ ws → gt (rst ρ1 ρ ws) v = keepI (gt ρ1 v) ∨ gt (rst ρ1 ρ ws) v = none := by
            intro ws
            induction ws with
            | nil => intro m; exact absurd m List.not_mem_nil
            | cons w ws ih =>
              intro m
              simp only [rst]
              by_cases hw : v = w
              · subst hw
                by_cases hl : v < (rst ρ1 ρ ws).length
                · exact .inl (gt_st_same _ _ _ hl)
                · refine .inr ?_
                  rw [gt_get, List.getElem?_eq_none (by rw [st_len]; omega)]; rfl
              · rw [gt_st_ne _ _ _ _ hw]
                exact ih ((List.mem_cons.mp m).resolve_left hw)
          exact (this vs hv).resolve_right hn
        rw [← hg]
        have : ∀ (ρ : Env) (v : Nat), st ρ v (gt ρ v) = ρ := by
          intro ρ
          induction ρ with
          | nil => intro v; rfl
          | cons x ρ ih => intro v; cases v with
            | zero => rfl
            | succ v => simp [st, gt, ih]
        exact this _ _
      rw [hsame]
      exact ⟨F1, Z1, s2, p, q⟩
end
section
variable {X : Cx} {tb : Tb} {cf : Cf} {c : CkC}
abbrev blkK (c : CkC) (scope : Scope) : CkC := ⟨c.N, relab scope c.sc, fun x => scope.names.lookup x == some .cell⟩
theorem xok_blk (ok : XOk X tb cf c) {s : Shared} {H : Hp} {scope : Scope} {C : Addr} {cl : List (Str × Addr)} {fp : List Addr} : XOk (X.blk s H scope (compEnvC scope cl C X.env) fp) tb cf (blkK c scope) where
  calm := ok.calm
  nd := ok.nd
  hN := ok.hN
  hsc := by
    show relabel scope X.env = relab scope c.sc
    rw [← ok.hsc]; rfl
  hfn := fun x h => h
  gd := ok.gd
  hu := ok.hu
  hd := ok.hd
  blt := ok.blt
  con := ok.con
  calls := fun sh m => ⟨(ok.calls sh m).ex⟩
  mcalls := fun ms m => ⟨(ok.mcalls ms m).ex⟩
  nes := fun ms m => ⟨⟨(ok.nes ms m).1.ex⟩, (ok.nes ms m).2⟩
  iscs := ok.iscs
theorem pts_imp {ifs : List Expr} {t t' : TT} (h : PTs X ifs t) (i : ∀ σ H Q, t' σ H Q → t σ H Q) : PTs X ifs t' := ⟨fun pins s σ H Q I q => h.run pins s σ H Q I (i σ H Q q)⟩
theorem pts_yes : PTs X [] (tIT X.K cf .tyes) := pts_imp pts_nil fun σ H Q ⟨ρ, fp, fz, b, ρ', s, dj, e, p⟩ => by
  simp only [evT] at e
  cases e
  exact p H fp fz s dj (.refl _ _ _ _)
theorem own_map {α : Type} (f : Nat → α) (own : List Nat) : (own.map fun i => (f i, i)).map (·.2) = own := by simp [List.map_map, Function.comp_def]
theorem lcL_cons {f : D → Env → Rs (Option D)} {x : D} {xs : List D} {ρ ρ5 : Env} {ys : List D} (h : lcL f (x :: xs) ρ = .ok ys ρ5) : ∃ y ρ1 ys', f x ρ = .ok y ρ1 ∧ lcL f xs ρ1 = .ok ys' ρ5 ∧ ys = (match y with | some z => z :: ys' | none => ys') := by
  simp only [lcL] at h
  obtain ⟨y, ρ1, h1, h2⟩ := bind_inv h
  obtain ⟨ys', ρ2, h3, h4⟩ := bind_inv h2
  cases h4
  exact ⟨y, ρ1, ys', h1, h3, rfl⟩
/-- one turn's body -/
def lcB (cf : Cf) (k : Nat) (own : List Nat) (elt : Ex) (tg : Tg) (cnd : Ex) : D → Env → Rs (Option D) := fun x ρ => match setT tg x ρ with
  | none => .stk
  | some ρ2 => (evT cf cnd ρ2).bind fun t ρ3 => if t then
      (ev cf elt ρ3).bind fun s ρ4 => if hasd k s then .ok (some s.1) (wp ρ4 own) else .stk
    else .ok none (wp ρ3 own)
theorem ev_lc {k : Nat} {own : List Nat} {elt : Ex} {tg : Tg} {it cnd : Ex} {ρ : Env} : ev cf (.lc k own elt tg it cnd) ρ = (evI cf it ρ).bind fun xs ρ1 => (lcL (lcB cf k own elt tg cnd) xs (wp ρ1 own)).bind fun ys ρ5 => if ys.length ≤ sizeLine then .ok (.lst ys, k + 1) (rst ρ1 ρ5 own) else .stk := by
  simp only [ev]; rfl
theorem lc_read (σ : St) (H : Hp) (Q : VK) {k : Nat} {own : List Nat} {elt : Ex} {tg : Tg} {it cnd : Ex} (hown : ∀ i ∈ tgSlots tg, i ∈ own) (htg : TgT X.K tg (tgG X.K tg)) (h : tI X.K cf (.lc k own elt tg it cnd) σ H Q) :
    tLc (tII X.K cf it) (tgG X.K tg) (tIT X.K cf cnd) (tI X.K cf elt) own σ H Q := by
  obtain ⟨ρ, fp, fz, d, ρ', s, dj, e, p⟩ := h
  rw [ev_lc] at e
  obtain ⟨xs, ρ1, e1, e2⟩ := bind_inv e
  obtain ⟨ys, ρ5, e3, e4⟩ := bind_inv e2
  clear e e2
  split at e4
  case isFalse => cases e4
  rename_i hlen
  cases e4
  have hq : quiet (.lc k own elt tg it cnd) = true → quiet elt = true ∧ quiet it = true ∧ quiet cnd = true := fun h => and_iff3 (by simpa only [quiet] using h)
  generalize quiet (.lc k own elt tg it cnd) = q at p hq
  refine ⟨ρ, fp, fz, xs, ρ1, s, dj, e1, fun J H1 hold zI f2 z2 it' hh s1 d1 x1 Dd hD => ?_⟩
  have x1 := x1.weak (b' := q) (fun h => (hq h).2.1)
  have tI0 := it'.trk _ hh
  let W : Nat → Nat → Hp → Prop := fun i m Hc => m = xs.length - i ∧ ∃ done acc ρc rest f z F Z, ys = done ++ rest ∧ lcL (lcB cf k own elt tg cnd) (xs.drop i) ρc = .ok rest ρ5 ∧ Hc Dd = some (.lst acc) ∧ RepL X.K Hc done k acc f z ∧ SL X.K Hc (wipe σ own) ρc F Z ∧
    hold Hc ∧ Disj ((Dd :: f) ++ F) ((z ++ zI) ++ Z) ∧ Ext q H fp fz Hc ((Dd :: f) ++ F) ((z ++ zI) ++ Z) ∧ (q = true → New H (Dd :: f)) ∧ (∀ v ∈ own, gt ρc v = none)
  refine ⟨W, ⟨xs.length, by simp, ?_⟩, fun i m Hc ⟨hm, done, acc, ρc, rest, f, z, F, Z, hys, hl, hcD, rl, sc, hhc, dc, xc, nc, gc⟩ => ?_⟩
  · obtain ⟨F, Z, sw, lw⟩ := SL.wipe s1 own
    have x2 := (x1.to (f := F) (z := zI ++ Z) (fun a m => lw.fp a m) (fun a m => (List.mem_append.mp m).elim (fun m => .inr (List.mem_append_left _ m)) fun m => (lw.fz a m).elim (fun m => .inr (List.mem_append_right _ m)) .inl)).new (o := .lst []) hD
    have tw := sw.trk
    refine ⟨[], [], wp ρ1 own, ys, [], [], F, Z, rfl, by simpa using e3, upd_same, by simp [RepL], SL.stay (.new hD) sw (by simp) (by simp), it'.keep [] _ _ (.new hD) (by simp) hh, ⟨?_, ?_⟩, x2, fun h a m => ?_, fun v hv => gt_wp _ _ _ hv⟩
    · have dF := lw.disj ⟨d1.1, fun a m m' => d1.2 a m (List.mem_append_right _ m')⟩
      exact List.nodup_cons.mpr ⟨fun m => tw.1 Dd m hD, dF.1⟩
    · intro a m m'
      have dF := lw.disj ⟨d1.1, fun a m m' => d1.2 a m (List.mem_append_right _ m')⟩
      simp only [List.nil_append, List.cons_append] at m m'
      rcases List.mem_cons.mp m with rfl | m
      · rcases List.mem_append.mp m' with m' | m'
        · exact tI0 a m' hD
        · exact tw.2 a m' hD
      · rcases List.mem_append.mp m' with m' | m'
        · exact d1.2 a (lw.fp a m) (List.mem_append_left _ m')
        · exact dF.2 a m m'
    · subst h
      rw [List.mem_singleton.mp m]; exact x1.none hD
  · by_cases hi : i < xs.length
    · refine .inr ?_
      have hx : xs[i]? = some xs[i] := List.getElem?_eq_getElem hi
      obtain ⟨hgo, hyld⟩ := it'.go i Hc xs[i] hhc hx
      refine ⟨hgo, W (i + 1) (xs.length - (i + 1)), fun H' w => ⟨_, by omega, w⟩, fun x H' hy => ?_⟩
      obtain ⟨st0, zx, rx, hzx⟩ := hyld x H' hy
      rw [List.drop_eq_getElem_cons hi] at hl
      obtain ⟨y, ρa, rest', hb, hl', hrest⟩ := lcL_cons hl
      unfold lcB at hb
      split at hb
      · cases hb
      rename_i ρ2 hset
      obtain ⟨t, ρ3, ht, hb2⟩ := bind_inv hb
      have sc' := SL.stay st0 sc (by simp) (by simp)
      have trl := RepL.own _ _ _ _ _ rl
      have tc := sc.trk
      have tz := it'.trk _ hhc
      have hne : ∀ a ∈ (Dd :: f) ++ F, Hc a ≠ none := fun a m => by
        rcases List.mem_append.mp m with m | m
        · rcases List.mem_cons.mp m with rfl | m
          · rw [hcD]; simp
          · obtain ⟨o, e, _⟩ := trl.1 a m
            rw [e]; simp
        · exact tc.1 a m
      have dc' : Disj ((Dd :: f) ++ F) ((z ++ zI) ++ (zx ++ Z)) := ⟨dc.1, fun a m m' => by
        rcases List.mem_append.mp m' with m' | m'
        · exact dc.2 a m (List.mem_append_left _ m')
        · rcases List.mem_append.mp m' with m' | m'
          · rcases hzx a m' with h | h
            · exact dc.2 a m (List.mem_append_left _ (List.mem_append_right _ h))
            · exact hne a m h
          · exact dc.2 a m (List.mem_append_right _ m')⟩
      have xc' : Ext q H fp fz H' ((Dd :: f) ++ F) ((z ++ zI) ++ (zx ++ Z)) := ⟨fun a o h n => st0 a o (xc.stay a o h n) (by simp), xc.fpx, fun a m => by
        rcases List.mem_append.mp m with m | m
        · exact xc.fzx a (List.mem_append_left _ m)
        · rcases List.mem_append.mp m with m | m
          · rcases hzx a m with h | h
            · exact xc.fzx a (List.mem_append_left _ (List.mem_append_right _ h))
            · exact (xc.some h).elim (fun h => .inr (.inr h)) .inl
          · exact xc.fzx a (List.mem_append_right _ m)⟩
      have rl0 := RepL.stay0 st0 rl
      have hD0 := st0 Dd _ hcD (by simp)
      have hh0 := it'.keep [] _ _ st0 (by simp) hhc
      refine htg x _ H' _ _ ρc ρ2 F Z zx sc' rx hset (fun σ2 f' z' s2 l2 hw => ?_)
      have l3 : Less ((Dd :: f) ++ F) ((z ++ zI) ++ (zx ++ Z)) ((Dd :: f) ++ f') ((z ++ zI) ++ z') := (Less.refl _ _).app l2
      have d3 := l3.disj dc'
      have x3 := xc'.less l3
      have hwo : wipe σ2 own = wipe σ own := by rw [hw own hown]; exact wipe_wipe own own fun _ h => h
      have tkF : Trk H' (Dd :: f) := fun a m => by
        rcases List.mem_cons.mp m with rfl | m
        · rw [hD0]; simp
        · obtain ⟨o, e, _⟩ := (RepL.own _ _ _ _ _ rl0).1 a m
          rw [e]; simp
      have tkZ : Trk H' (z ++ zI) := fun a m => by
        rcases List.mem_append.mp m with m | m
        · obtain ⟨o, e⟩ := (RepL.own _ _ _ _ _ rl0).2 a m
          rw [e]; simp
        · exact it'.trk _ hh0 a m
      refine ⟨hwo, ρ2, f', z', t, ρ3, s2, d3.right, ht, fun H3 f3 z3 s3 d4 x4 => ?_⟩
      have d4' := Ext.disj d3 tkF tkZ x4 d4
      have x4' := Ext.trans x3 (x4.weak (b' := q) fun h => (hq h).2.2)
      have off1 : ∀ a ∈ Dd :: f, a ∉ wset (quiet cnd) f' := d3.off1
      have off2 : ∀ a ∈ z ++ zI, a ∉ wset (quiet cnd) f' := d3.off2
      have rl3 := RepL.stay x4.stay _ _ _ _ _ rl0 (fun a m => off1 a (List.mem_cons_of_mem _ m)) (fun a m => off2 a (List.mem_append_left _ m))
      have hD3 := x4.stay Dd _ hD0 (fun m => absurd m (off1 Dd (by simp)))
      have hh3 := it'.keep _ _ _ x4.stay (fun a m => off2 a (List.mem_append_right _ m)) hh0
      cases t with
      | false =>
        simp only [Bool.false_eq_true, if_false] at hb2 ⊢
        cases hb2
        simp only at hrest
        subst hrest
        obtain ⟨F', Z', sw, lw⟩ := SL.wipe s3 own
        rw [hwo] at sw
        have l5 := (Less.refl (Dd :: f) (z ++ zI)).app lw
        exact ⟨rfl, done, acc, wp ρ3 own, _, f, z, F', Z', hys, hl', hD3, rl3, sw, hh3, l5.disj d4', x4'.less l5, nc, fun v hv => gt_wp _ _ _ hv⟩
      | true =>
        simp only [if_true] at hb2 ⊢
        obtain ⟨sv, ρ4, he, hb3⟩ := bind_inv hb2
        split at hb3
        case isFalse => cases hb3
        rename_i hhd
        cases hb3
        simp only at hrest
        have tkF3 : Trk H3 (Dd :: f) := fun a m => by
          rcases List.mem_cons.mp m with rfl | m
          · rw [hD3]; simp
          · obtain ⟨o, e, _⟩ := (RepL.own _ _ _ _ _ rl3).1 a m
            rw [e]; simp
        have tkZ3 : Trk H3 (z ++ zI) := fun a m => by
          rcases List.mem_append.mp m with m | m
          · obtain ⟨o, e⟩ := (RepL.own _ _ _ _ _ rl3).2 a m
            rw [e]; simp
          · exact it'.trk _ hh3 a m
        refine ⟨ρ3, f3, z3, sv, ρ4, s3, d4, he, fun u H4 f5 z5 f6 z6 ru s6 d6 x6 n6 => ?_⟩
        have d6' := Ext.disj d4' tkF3 tkZ3 x6 d6
        have x6' := Ext.trans x4' (x6.weak (b' := q) fun h => (hq h).1)
        have off1 : ∀ a ∈ Dd :: f, a ∉ wset (quiet elt) f3 := d4'.off1
        have off2 : ∀ a ∈ z ++ zI, a ∉ wset (quiet elt) f3 := d4'.off2
        have rl4 := RepL.stay x6.stay _ _ _ _ _ rl3 (fun a m => off1 a (List.mem_cons_of_mem _ m)) (fun a m => off2 a (List.mem_append_left _ m))
        have hD4 := x6.stay Dd _ hD3 (fun m => absurd m (off1 Dd (by simp)))
        have hh4 := it'.keep _ _ _ x6.stay (fun a m => off2 a (List.mem_append_right _ m)) hh3
        obtain ⟨f5', z5', ru', l5⟩ := Rep.hasd hhd ru
        obtain ⟨F', Z', sw, lw⟩ := SL.wipe s6 own
        rw [hwo] at sw
        have hst : Stay [Dd] H4 (upd H4 Dd (.lst (acc ++ [u]))) := stay_upd [] (by rw [hD4]; simp) (by rw [hD4]; exact trivial)
        -- the addresses beside D
        have ndD : Dd ∉ f ++ (f5 ++ f6) ∧ Dd ∉ (z ++ zI) ++ (z5 ++ z6) := by
          have h1 := List.nodup_cons.mp (show (Dd :: (f ++ (f5 ++ f6))).Nodup from d6'.1)
          exact ⟨h1.1, d6'.2 Dd (by simp)⟩
        have no : ∀ a : Addr, a ≠ Dd → a ∉ [Dd] := fun a h m => h (List.mem_singleton.mp m)
        have nf : ∀ a ∈ f, a ∉ [Dd] := fun a m => no a fun e => ndD.1 (by rw [e] at m; simp [m])
        have nz : ∀ a ∈ z, a ∉ [Dd] := fun a m => no a fun e => ndD.2 (by rw [e] at m; simp [m])
        have nzI : ∀ a ∈ zI, a ∉ [Dd] := fun a m => no a fun e => ndD.2 (by rw [e] at m; simp [m])
        have nf5 : ∀ a ∈ f5, a ∉ [Dd] := fun a m => no a fun e => ndD.1 (by rw [e] at m; simp [m])
        have nz5 : ∀ a ∈ z5, a ∉ [Dd] := fun a m => no a fun e => ndD.2 (by rw [e] at m; simp [m])
        have nf6 : ∀ a ∈ f6, a ∉ [Dd] := fun a m => no a fun e => ndD.1 (by rw [e] at m; simp [m])
        have nz6 : ∀ a ∈ z6, a ∉ [Dd] := fun a m => no a fun e => ndD.2 (by rw [e] at m; simp [m])
        have rl5 := RepL.stay hst _ _ _ _ _ rl4 nf nz
        have ru5 := Rep.stay hst _ _ _ _ _ ru' (fun a m => nf5 a (l5.fp a m)) (fun a m => (l5.fz a m).elim (nz5 a) (nf5 a))
        have sw5 := SL.stay hst sw (fun a m => nf6 a (lw.fp a m)) (fun a m => (lw.fz a m).elim (nz6 a) (nf6 a))
        have rl6 : RepL X.K (upd H4 Dd (.lst (acc ++ [u]))) (done ++ [sv.1]) k (acc ++ [u]) (f ++ f5') (z ++ z5') := by
          refine RepL.app rl5 ?_
          simp only [RepL]
          exact ⟨u, [], f5', [], z5', [], rfl, by simp, by simp, ru5, rfl, rfl, rfl⟩
        have L : Less ((Dd :: f) ++ (f5 ++ f6)) ((z ++ zI) ++ (z5 ++ z6)) ((Dd :: (f ++ f5')) ++ F') (((z ++ z5') ++ zI) ++ Z') := by
          obtain ⟨m1, p1, q1⟩ := l5
          obtain ⟨m2, p2, q2⟩ := lw
          refine .by (m1 ++ m2) (fun a => ?_) fun a m => ?_
          · have := cnt_perm p1 a
            have := cnt_perm p2 a
            simp only [List.count_append, List.count_cons] at *
            omega
          · simp only [List.mem_append] at m ⊢
            rcases m with ((m | m) | m) | m
            · exact .inl (.inl (.inl m))
            · exact (q1 a m).imp (fun m => .inr (.inl m)) .inl
            · exact .inl (.inl (.inr m))
            · exact (q2 a m).imp (fun m => .inr (.inr m)) .inr
        have hxD : Ext q H fp fz (upd H4 Dd (.lst (acc ++ [u]))) ((Dd :: f) ++ (f5 ++ f6)) ((z ++ zI) ++ (z5 ++ z6)) := x6'.wr (by simp) (fun h => nc h Dd (by simp)) hst
        refine ⟨acc, hD4, ?_, rfl, done ++ [sv.1], acc ++ [u], wp ρ4 own, rest', f ++ f5', z ++ z5', F', Z', by rw [hys, hrest]; simp, hl', upd_same, rl6, sw5, it'.keep _ _ _ hst nzI hh4, L.disj d6', hxD.less L, fun h a m => ?_, fun v hv => gt_wp _ _ _ hv⟩
        · rw [hys, hrest, List.length_append] at hlen
          rw [RepL.len rl4]
          simp only [List.length_cons] at hlen
          omega
        · rcases List.mem_cons.mp m with rfl | m
          · exact nc h _ (by simp)
          · rcases List.mem_append.mp m with m | m
            · exact nc h a (by simp [m])
            · have h1 := n6 (hq h).1 a (l5.fp a m)
              subst h
              exact x4'.none h1
    · refine .inl ⟨it'.stop i Hc hhc (by omega), ?_⟩
      rw [List.drop_eq_nil_of_le (by omega)] at hl
      simp only [lcL] at hl
      cases hl
      have hys' : ys = done := by simpa using hys
      subst hys'
      have sσ : SL X.K Hc σ ρ5 F Z := SL.cong sc (by rw [wipe_length]) fun j hj => (wipe_out fun m => hj (gc j m)).symm
      obtain ⟨F', Z', sf, p1, p2⟩ := rst_ok sσ s1 own gc
      have L : Less ((Dd :: f) ++ F) ((z ++ zI) ++ Z) ((Dd :: f) ++ F') (z ++ Z') := by
        refine .by [] (fun a => ?_) fun a m => .inl ?_
        · have := cnt_perm p1 a
          simp only [List.count_append, List.count_cons, List.count_nil] at *
          omega
        · rcases List.mem_append.mp m with m | m
          · simp [m]
          · exact List.mem_append_right _ (p2.mem_iff.mpr m)
      exact p (.ref Dd) Hc (Dd :: f) z F' Z' (Rep.mkL hcD rl) sf (L.disj dc) (xc.less L) nc
theorem lc_pe (ok : XOk X tb cf c) {k : Nat} {own : List Nat} {elt : Ex} {tg : Tg} {it cnd : Ex} {xe xt xi : Expr} {ifs : List Expr} {scope : Scope} {pos : Pos} (hi : PI X xt xi (tII X.K cf it)) (hblk : blkC c.N c.sc scope (own.map fun i => ((c.N[i]?).getD Str.empty, i)) = true)
    (hown : (tgSlots tg).all own.contains = true) (htg : ckTg (blkK c scope) tg xt = true)
    (he : ∀ X', XOk X' tb cf (blkK c scope) → PE X' xe (tI X'.K cf elt)) (hc : ∀ X', XOk X' tb cf (blkK c scope) → PTs X' ifs (tIT X'.K cf cnd)) (hs : ∀ x, foldedSetIterable xi X.env x = pure x) :
    PE X (.ListComp xe [⟨xt, xi, ifs, 0⟩] scope pos) (tI X.K cf (.lc k own elt tg it cnd)) := by
  have hb : BlkOk X.N X.env.scope scope (own.map fun i => ((c.N[i]?).getD Str.empty, i)) := by
    rw [ok.hN, ok.hsc]; exact blkOk_by hblk
  have h0 := pe_lc (X := X) (pos := pos) (g := tgG X.K tg) (tt := tIT X.K cf cnd) (te := tI X.K cf elt) ok.calm ok.nd hi hb (fun s H C cl fp => (tg_ok (xok_blk ok) htg).1) (fun s H C cl fp => hc _ (xok_blk ok)) (fun s H C cl fp => he _ (xok_blk ok)) hs
  rw [own_map] at h0
  refine ⟨fun pins s σ H Q I q => h0.run pins s σ H Q I (lc_read σ H Q (fun i m => ?_) (tg_ok (xok_blk (s := s) (H := H) (scope := scope) (C := 0) (cl := []) (fp := []) ok) htg).2 q)⟩
  simpa using List.all_eq_true.mp hown i m
end
end Pi
/-! Pi18: every expression. -/
namespace Pi
open PySem L2
theorem nof {P : Prop} (h : false = true) : P := by cases h
section
variable {tb : Tb} {cf : Cf}
structure Ok (tb : Tb) (cf : Cf) (e : Ex) : Prop where
  pe : ∀ (X : Cx) (c : CkC) (x : Expr), XOk X tb cf c → ck tb c e x = true → PE X x (tI X.K cf e)
  pa : ∀ (X : Cx) (c : CkC) (xs : List Expr) (kws : List Keyword), XOk X tb cf c → ckA tb c e (xs ++ kws.map (·.value)) = true → PAK X xs kws (tIA X.K cf e)
  pd : ∀ (X : Cx) (c : CkC) (ks : List (Option Expr)) (vs : List Expr), XOk X tb cf c → ckD tb c e ks vs = true → DOk X cf e ks vs
  pv : ∀ v r, e = .cons v r → (∀ (X : Cx) (c : CkC) (x : Expr), XOk X tb cf c → ck tb c v x = true → PE X x (tI X.K cf v)) ∧ (∀ (X : Cx) (c : CkC) (ks : List (Option Expr)) (vs : List Expr), XOk X tb cf c → ckD tb c r ks vs = true → DOk X cf r ks vs)
  po : ∀ (X : Cx) (c : CkC) (x : Option Expr), XOk X tb cf c → ckO tb c e x = true → PO X x (tIO X.K cf e)
  pt : ∀ (X : Cx) (c : CkC) (x : Expr), XOk X tb cf c → ckT tb c e x = true → PT X x (tIT X.K cf e)
  pw : ∀ (X : Cx) (c : CkC) (op : BoolOp) (xs : List Expr) (p : Pos), XOk X tb cf c → ckT tb c e (.BoolOp op xs p) = true → PW X (.BoolOp op xs p) (tIT X.K cf e)
  pi : ∀ (X : Cx) (c : CkC) (xt x : Expr), XOk X tb cf c → ckI tb c e xt x = true → PI X xt x (tII X.K cf e)
theorem Ok.mkE {e : Ex} (pe : ∀ (X : Cx) (c : CkC) (x : Expr), XOk X tb cf c → ck tb c e x = true → PE X x (tI X.K cf e)) (ha : ∀ c xs, ckA tb c e xs = false) (hd : ∀ c ks vs, ckD tb c e ks vs = false) (ho : ∀ c x, ckO tb c e x = false)
    (ht : ∀ c x, ckT tb c e x = false) (hi : ∀ c xt x, ckI tb c e xt x = false) (hv : ∀ v r, e ≠ .cons v r := by intro v r h; cases h) : Ok tb cf e where
  pv := fun v r h => absurd h (hv v r)
  pe := pe
  pa := fun X c xs kws ok h => by rw [ha] at h; cases h
  pd := fun X c ks vs ok h => by rw [hd] at h; cases h
  po := fun X c x ok h => by rw [ho] at h; cases h
  pt := fun X c x ok h => by rw [ht] at h; cases h
  pw := fun X c op xs p ok h => by rw [ht] at h; cases h
  pi := fun X c xt x ok h => by rw [hi] at h; cases h
theorem Ok.mkT {e : Ex} (he : ∀ c x, ck tb c e x = false) (ha : ∀ c xs, ckA tb c e xs = false) (hd : ∀ c ks vs, ckD tb c e ks vs = false) (ho : ∀ c x, ckO tb c e x = false)
    (pt : ∀ (X : Cx) (c : CkC) (x : Expr), XOk X tb cf c → ckT tb c e x = true → PT X x (tIT X.K cf e)) (pw : ∀ (X : Cx) (c : CkC) (op : BoolOp) (xs : List Expr) (p : Pos), XOk X tb cf c → ckT tb c e (.BoolOp op xs p) = true → PW X (.BoolOp op xs p) (tIT X.K cf e)) (hi : ∀ c xt x, ckI tb c e xt x = false) (hv : ∀ v r, e ≠ .cons v r := by intro v r h; cases h) : Ok tb cf e where
  pv := fun v r h => absurd h (hv v r)
  pe := fun X c x ok h => by rw [he] at h; cases h
  pa := fun X c xs kws ok h => by rw [ha] at h; cases h
  pd := fun X c ks vs ok h => by rw [hd] at h; cases h
  po := fun X c x ok h => by rw [ho] at h; cases h
  pt := pt
  pw := pw
  pi := fun X c xt x ok h => by rw [hi] at h; cases h
theorem Ok.mkI {e : Ex} (he : ∀ c x, ck tb c e x = false) (ha : ∀ c xs, ckA tb c e xs = false) (hd : ∀ c ks vs, ckD tb c e ks vs = false) (ht : ∀ c x, ckT tb c e x = false)
    (po : ∀ (X : Cx) (c : CkC) (x : Option Expr), XOk X tb cf c → ckO tb c e x = true → PO X x (tIO X.K cf e)) (pi : ∀ (X : Cx) (c : CkC) (xt x : Expr), XOk X tb cf c → ckI tb c e xt x = true → PI X xt x (tII X.K cf e)) (hv : ∀ v r, e ≠ .cons v r := by intro v r h; cases h) : Ok tb cf e where
  pv := fun v r h => absurd h (hv v r)
  pe := fun X c x ok h => by rw [he] at h; cases h
  pa := fun X c xs kws ok h => by rw [ha] at h; cases h
  pd := fun X c ks vs ok h => by rw [hd] at h; cases h
  po := po
  pt := fun X c x ok h => by rw [ht] at h; cases h
  pw := fun X c op xs p ok h => by rw [ht] at h; cases h
  pi := pi
def cndOk (tb : Tb) (c : CkC) (cnd : Ex) (ifs : List Expr) : Bool := match ifs with
  | [] => (match cnd with | .tyes => true | _ => false)
  | [xc] => ckT tb c cnd xc
  | _ => false
theorem star_tail {x : Expr} {xs : List Expr} {env : PySem.Env} (h : starEach (x :: xs) env = (x :: xs).map fun x => (false, eval x env)) : starEach xs env = xs.map fun x => (false, eval x env) := by
  cases x <;> exact (List.cons.inj h).2
theorem ckA_starP {c : CkC} : ∀ {l : Ex} {xs ys : List Expr} (env : PySem.Env), ckA tb c l (xs ++ ys) = true → starEach xs env = xs.map fun x => (false, eval x env) := by
  intro l xs ys env h
  have h1 := ckA_star env h
  clear h
  induction xs with
  | nil => rfl
  | cons x xs ih =>
    have h2 := ih (star_tail h1)
    have : starEach (x :: xs) env = (false, eval x env) :: starEach xs env := by
      cases x <;> first | rfl | exact nomatch congrArg Prod.fst (List.cons.inj h1).1
    rw [this, h2]; rfl
theorem ckTg_lt {c : CkC} {tg : Tg} {xt : Expr} (h : ckTg c tg xt = true) : ∀ i ∈ tgSlots tg, i < c.N.length := by
  have h1 : ∀ {i : Nat} {x : Str}, ckTgt c i x = true → i < c.N.length := by
    intro i x h
    simp only [ckTgt, Bool.and_eq_true, beq_iff_eq] at h
    exact (List.getElem?_eq_some_iff.mp h.1.1).1
  have h2 : ∀ {l : List Nat} {xs : List Expr}, ckTg.go c l xs = true → ∀ i ∈ l, i < c.N.length := by
    intro l
    induction l with
    | nil => intro xs _ i m; exact absurd m List.not_mem_nil
    | cons j l ih =>
      intro xs h i m
      cases xs with
      | nil => exact nof h
      | cons x xs =>
        cases x <;> first | exact nof h | skip
        simp only [ckTg.go, Bool.and_eq_true] at h
        rcases List.mem_cons.mp m with rfl | m
        · exact h1 h.1
        · exact ih h.2 i m
  cases tg with
  | nm i =>
    cases xt <;> first | exact nof h | skip
    intro j m
    rw [List.mem_singleton.mp m]
    exact h1 h
  | tp l =>
    cases xt <;> first | exact nof h | skip
    exact h2 h
  | tn l =>
    cases xt <;> first | exact nof h | skip
    rename_i es kk pp
    have h : ckTg.go1 c l es = true := h
    have h3 : ∀ {l : List Tg1} {xs : List Expr}, ckTg.go1 c l xs = true → ∀ i ∈ l.flatMap tg1Slots, i < c.N.length := by
      intro l
      induction l with
      | nil => intro xs _ i m; exact absurd m List.not_mem_nil
      | cons j l ih =>
        intro xs h i m
        rw [List.flatMap_cons, List.mem_append] at m
        cases xs with
        | nil => cases j <;> exact nof h
        | cons x xs =>
          cases j with
          | nm j =>
            cases x <;> first | exact nof h | skip
            simp only [ckTg.go1, Bool.and_eq_true] at h
            rcases m with m | m
            · rw [List.mem_singleton.mp m]; exact h1 h.1
            · exact ih h.2 i m
          | tp ls =>
            cases x <;> first | exact nof h | skip
            simp only [ckTg.go1, Bool.and_eq_true] at h
            rcases m with m | m
            · exact h2 h.1 i m
            · exact ih h.2 i m
    exact h3 h
theorem tq_pw {X : Cx} {a : Ex} {xa : Expr} (ia : PW X xa (tIT X.K cf a)) (hq : quiet a = true) : PW X xa (tIT X.K cf (.tq a)) := by
  refine pw_imp ia fun σ H Q ⟨ρ, fp, fz, w, ρ', s, dj, e, p⟩ => ?_
  simp only [evT] at e
  obtain ⟨k, ρ1, e1, ea⟩ := bind_inv e
  cases ea
  refine ⟨ρ, fp, fz, w, ρ1, s, dj, e1, fun H1 f2 z2 s2 d2 x2 => ?_⟩
  rw [hq] at x2
  have s' : SL X.K H1 σ ρ fp fz := SL.stay x2.stay s (fun _ _ m => absurd m List.not_mem_nil) (fun _ _ m => absurd m List.not_mem_nil)
  exact p H1 fp fz s' dj ⟨x2.stay.mono fun _ m => absurd m List.not_mem_nil, fun a m => .inl m, fun a m => .inr (.inl m)⟩
theorem star1 {X : Cx} {c : CkC} {a : Ex} {x : Expr} (h : ck tb c a x = true) (es : List Expr) : starEach (x :: es) X.env = (false, eval x X.env) :: starEach es X.env := ck_nostar h es X.env
theorem PAK.pa' {X : Cx} {xs : List Expr} {c : CkC} {e : Ex} (o : Ok tb cf e) (ok : XOk X tb cf c) (h : ckA tb c e xs = true) : PA X xs (tIA X.K cf e) := PAK.pa (o.pa X c xs [] ok (by simpa using h))
theorem ok_all (e : Ex) : Ok tb cf e := by
  induction e with
  | var i =>
    refine .mkE (fun X c x ok h => ?_) (fun _ _ => rfl) (fun _ _ _ => rfl) (fun _ _ => rfl) (fun _ _ => rfl) (fun _ _ _ => rfl)
    cases x <;> first | exact nof h | exact var_ok ok h
  | mv i =>
    refine .mkE (fun X c x ok h => ?_) (fun _ _ => rfl) (fun _ _ _ => rfl) (fun _ _ => rfl) (fun _ _ => rfl) (fun _ _ _ => rfl)
    cases x <;> first | exact nof h | exact mv_ok ok h
  | q e ih =>
    refine .mkE (fun X c x ok h => ?_) (fun _ _ => rfl) (fun _ _ _ => rfl) (fun _ _ => rfl) (fun _ _ => rfl) (fun _ _ _ => rfl)
    have h : (ck tb c e x && quiet e) = true := h
    rw [Bool.and_eq_true] at h
    exact q_ok (ih.pe X c x ok h.1) h.2
  | int i =>
    refine .mkE (fun X c x ok h => ?_) (fun _ _ => rfl) (fun _ _ _ => rfl) (fun _ _ => rfl) (fun _ _ => rfl) (fun _ _ _ => rfl)
    cases x <;> first | exact nof h | skip
    rename_i v k p
    cases v <;> first | exact nof h | skip
    rename_i j
    have h : (i == j) = true := h
    rw [beq_iff_eq] at h
    subst h
    exact const_ok pe_int (fun ρ => rfl) (fun H => ⟨rfl, rfl, rfl⟩)
  | bl i =>
    refine .mkE (fun X c x ok h => ?_) (fun _ _ => rfl) (fun _ _ _ => rfl) (fun _ _ => rfl) (fun _ _ => rfl) (fun _ _ _ => rfl)
    cases x <;> first | exact nof h | skip
    rename_i v k p
    cases v <;> first | exact nof h | skip
    rename_i j
    have h : (i == j) = true := h
    rw [beq_iff_eq] at h
    subst h
    exact const_ok pe_bl (fun ρ => rfl) (fun H => ⟨rfl, rfl, rfl⟩)
  | str i =>
    refine .mkE (fun X c x ok h => ?_) (fun _ _ => rfl) (fun _ _ _ => rfl) (fun _ _ => rfl) (fun _ _ => rfl) (fun _ _ _ => rfl)
    cases x <;> first | exact nof h | skip
    rename_i v k p
    cases v <;> first | exact nof h | skip
    rename_i j
    have h : (i == j) = true := h
    rw [beq_iff_eq] at h
    subst h
    exact const_ok pe_str (fun ρ => rfl) (fun H => ⟨rfl, rfl, rfl⟩)
  | non =>
    refine .mkE (fun X c x ok h => ?_) (fun _ _ => rfl) (fun _ _ _ => rfl) (fun _ _ => rfl) (fun _ _ => rfl) (fun _ _ _ => rfl)
    cases x <;> first | exact nof h | skip
    rename_i v k p
    cases v <;> first | exact nof h | exact const_ok pe_non (fun ρ => rfl) (fun H => ⟨rfl, rfl, rfl⟩)
  | con j =>
    refine .mkE (fun X c x ok h => ?_) (fun _ _ => rfl) (fun _ _ _ => rfl) (fun _ _ => rfl) (fun _ _ => rfl) (fun _ _ _ => rfl)
    cases x <;> first | exact nof h | skip
    simp only [ck, Bool.and_eq_true, beq_iff_eq] at h
    exact con_ok ok h.1.1 h.1.2 h.2
  | op2 o a b iha ihb =>
    refine .mkE (fun X c x ok h => ?_) (fun _ _ => rfl) (fun _ _ _ => rfl) (fun _ _ => rfl) (fun _ _ => rfl) (fun _ _ _ => rfl)
    cases x <;> first | exact nof h | skip
    simp only [ck, Bool.and_eq_true, beq_iff_eq] at h
    obtain ⟨⟨rfl, h1⟩, h2⟩ := h
    exact op2_pe (iha.pe X c _ ok h1) (ihb.pe X c _ ok h2)
  | neg a ih =>
    refine .mkE (fun X c x ok h => ?_) (fun _ _ => rfl) (fun _ _ _ => rfl) (fun _ _ => rfl) (fun _ _ => rfl) (fun _ _ _ => rfl)
    cases x <;> first | exact nof h | skip
    rename_i op x p
    cases op <;> first | exact nof h | exact neg_pe (ih.pe X c x ok h)
  | not a ih =>
    refine .mkE (fun X c x ok h => ?_) (fun _ _ => rfl) (fun _ _ _ => rfl) (fun _ _ => rfl) (fun _ _ => rfl) (fun _ _ _ => rfl)
    cases x <;> first | exact nof h | skip
    rename_i op x p
    cases op <;> first | exact nof h | exact not_pe (ih.pe X c x ok h)
  | cmp o a b iha ihb =>
    refine .mkE (fun X c x ok h => ?_) (fun _ _ => rfl) (fun _ _ _ => rfl) (fun _ _ => rfl) (fun _ _ => rfl) (fun _ _ _ => rfl)
    cases x <;> first | exact nof h | skip
    rename_i xa ops cs p
    rcases ops with _ | ⟨o', _ | ⟨o2, ops⟩⟩ <;> rcases cs with _ | ⟨xb, _ | ⟨x2, cs⟩⟩ <;> first | exact nof h | (cases ops <;> exact nof h) | (rcases ops with _ | ⟨_, _⟩ <;> cases cs <;> exact nof h) | skip
    simp only [ck, Bool.and_eq_true, beq_iff_eq, Bool.not_eq_true'] at h
    obtain ⟨⟨⟨rfl, h1⟩, h2⟩, h3⟩ := h
    exact cmp_pe ok (iha.pe X c _ ok h1) (ihb.pe X c _ ok h2) h3
  | chain o p a b d iha ihb ihd =>
    refine .mkE (fun X c x ok h => ?_) (fun _ _ => rfl) (fun _ _ _ => rfl) (fun _ _ => rfl) (fun _ _ => rfl) (fun _ _ _ => rfl)
    cases x <;> first | exact nof h | skip
    rename_i xa ops cs pp
    rcases ops with _ | ⟨o', _ | ⟨o2, _ | ⟨o3, ops⟩⟩⟩ <;> rcases cs with _ | ⟨xb, _ | ⟨x2, _ | ⟨x3, cs⟩⟩⟩ <;> first | exact nof h | skip
    simp only [ck, Bool.and_eq_true, beq_iff_eq, Bool.not_eq_true'] at h
    obtain ⟨⟨⟨⟨⟨rfl, rfl⟩, h1⟩, h2⟩, h3⟩, h4⟩ := h
    exact chain_pe ok (iha.pe X c _ ok h1) (ihb.pe X c _ ok h2) (ihd.pe X c _ ok h3) h4
  | chain3 o p q a b d g iha ihb ihd ihg =>
    refine .mkE (fun X c x ok h => ?_) (fun _ _ => rfl) (fun _ _ _ => rfl) (fun _ _ => rfl) (fun _ _ => rfl) (fun _ _ _ => rfl)
    cases x <;> first | exact nof h | skip
    rename_i xa ops cs pp
    rcases ops with _ | ⟨o', _ | ⟨o2, _ | ⟨o3, _ | ⟨o4, ops⟩⟩⟩⟩ <;> rcases cs with _ | ⟨xb, _ | ⟨x2, _ | ⟨x3, _ | ⟨x4, cs⟩⟩⟩⟩ <;> first | exact nof h | skip
    simp only [ck, Bool.and_eq_true, beq_iff_eq, Bool.not_eq_true'] at h
    obtain ⟨⟨⟨⟨⟨⟨⟨rfl, rfl⟩, rfl⟩, h1⟩, h2⟩, h3⟩, h5⟩, h4⟩ := h
    exact chain3_pe ok (iha.pe X c _ ok h1) (ihb.pe X c _ ok h2) (ihd.pe X c _ ok h3) (ihg.pe X c _ ok h5) h4
  | and a b iha ihb =>
    refine .mkE (fun X c x ok h => ?_) (fun _ _ => rfl) (fun _ _ _ => rfl) (fun _ _ => rfl) (fun _ _ => rfl) (fun _ _ _ => rfl)
    cases x <;> first | exact nof h | skip
    rename_i op vs p
    rcases vs with _ | ⟨xa, _ | ⟨xb, r⟩⟩ <;> cases op <;> first | exact nof h | skip
    cases r with
    | nil =>
      simp only [ck, Bool.and_eq_true] at h
      exact and_pe (iha.pe X c _ ok h.1) (pe_one (ihb.pe X c _ ok h.2))
    | cons y r =>
      simp only [ck, Bool.and_eq_true] at h
      exact and_pe (iha.pe X c _ ok h.1) (ihb.pe X c _ ok h.2)
  | or a b iha ihb =>
    refine .mkE (fun X c x ok h => ?_) (fun _ _ => rfl) (fun _ _ _ => rfl) (fun _ _ => rfl) (fun _ _ => rfl) (fun _ _ _ => rfl)
    cases x <;> first | exact nof h | skip
    rename_i op vs p
    rcases vs with _ | ⟨xa, _ | ⟨xb, r⟩⟩ <;> cases op <;> first | exact nof h | skip
    cases r with
    | nil =>
      simp only [ck, Bool.and_eq_true] at h
      exact or_pe (iha.pe X c _ ok h.1) (pe_one (ihb.pe X c _ ok h.2))
    | cons y r =>
      simp only [ck, Bool.and_eq_true] at h
      exact or_pe (iha.pe X c _ ok h.1) (ihb.pe X c _ ok h.2)
  | ite t a b iht iha ihb =>
    refine .mkE (fun X c x ok h => ?_) (fun _ _ => rfl) (fun _ _ _ => rfl) (fun _ _ => rfl) (fun _ _ => rfl) (fun _ _ _ => rfl)
    cases x <;> first | exact nof h | skip
    simp only [ck, Bool.and_eq_true] at h
    exact ite_pe (iht.pt X c _ ok h.1.1) (iha.pe X c _ ok h.1.2) (ihb.pe X c _ ok h.2)
  | nil =>
    refine ⟨fun X c x ok h => nof h, fun X c xs kws ok h => ?_, fun X c ks vs ok h => ?_, (fun v r h => by cases h), fun X c x ok h => ?_, fun X c x ok h => nof h, fun X c op xs p ok h => nof h, fun X c xt x ok h => nof h⟩
    · cases xs with
      | nil =>
        cases kws with
        | nil => exact pak_imp pak_nil nil_tA
        | cons k kws => exact nof h
      | cons x xs => exact nof h
    · cases ks <;> cases vs <;> first | exact nof h | exact dok_nil
    · cases x <;> first | exact nof h | exact po_nil
  | cons a r iha ihr =>
    refine ⟨fun X c x ok h => nof h, fun X c xs kws ok h => ?_, fun X c ks vs ok h => ?_, (fun v r h => by cases h; exact ⟨iha.pe, ihr.pd⟩), fun X c x ok h => nof h, fun X c x ok h => nof h, fun X c op xs p ok h => nof h, fun X c xt x ok h => nof h⟩
    · by_cases hl : ∃ i, a = .lend i
      · obtain ⟨i, rfl⟩ := hl
        cases xs with
        | nil =>
          cases kws with
          | nil => exact nof h
          | cons k kws =>
            obtain ⟨nm, e, kp⟩ := k
            have h : ckA tb c (.cons (.lend i) r) (e :: kws.map (·.value)) = true := h
            cases e
            case Name =>
              simp only [ckA, Bool.and_eq_true] at h
              exact pak_imp (pak_kw (ckVar_ok ok h.1) (ihr.pa X c [] kws ok h.2)) lend_tA
            all_goals (simp only [ckA, ck, Bool.false_and, Bool.false_eq_true] at h)
        | cons x xs =>
          have h : ckA tb c (.cons (.lend i) r) (x :: (xs ++ kws.map (·.value))) = true := h
          cases x
          case Name =>
            simp only [ckA, Bool.and_eq_true] at h
            exact pak_imp (pak_cons (ckVar_ok ok h.1) (ihr.pa X c xs kws ok h.2) rfl) lend_tA
          all_goals (simp only [ckA, ck, Bool.false_and, Bool.false_eq_true] at h)
      · have hl' : ∀ i, a ≠ .lend i := fun i e => hl ⟨i, e⟩
        have key : ∀ x xs, ckA tb c (.cons a r) (x :: xs) = true → ck tb c a x = true ∧ ckA tb c r xs = true := by
          intro x xs h
          cases a <;> first | (simpa only [ckA, Bool.and_eq_true] using h) | exact absurd ⟨_, rfl⟩ hl
        have key0 : ckA tb c (.cons a r) [] = false := by cases a <;> rfl
        cases xs with
        | nil =>
          cases kws with
          | nil =>
            have h : ckA tb c (.cons a r) [] = true := h
            rw [key0] at h; cases h
          | cons k kws =>
            obtain ⟨nm, e, kp⟩ := k
            obtain ⟨h1, h2⟩ := key e (kws.map (·.value)) (show ckA tb c (.cons a r) (e :: kws.map (·.value)) = true from h)
            exact pak_imp (pak_kw (iha.pe X c e ok h1) (ihr.pa X c [] kws ok h2)) (cons_tA hl')
        | cons x xs =>
          obtain ⟨h1, h2⟩ := key x (xs ++ kws.map (·.value)) h
          exact pak_imp (pak_cons (iha.pe X c x ok h1) (ihr.pa X c xs kws ok h2) (star1 h1 xs)) (cons_tA hl')
    · cases r
      case cons v r =>
        obtain ⟨iv, ir⟩ := ihr.pv v r rfl
        rcases ks with _ | ⟨_ | xk, ks⟩ <;> rcases vs with _ | ⟨xv, vs⟩ <;> first | exact nof h | skip
        simp only [ckD, Bool.and_eq_true] at h
        refine dok_cons (fun i e => ?_) (fun i e => ?_) (iha.pe X c xk ok h.1.1) (iv X c xv ok h.1.2) (ir X c ks vs ok h.2)
        · subst e; exact nof h.1.1
        · subst e; exact nof h.1.2
      all_goals exact nof h
  | tup k l ih =>
    refine .mkE (fun X c x ok h => ?_) (fun _ _ => rfl) (fun _ _ _ => rfl) (fun _ _ => rfl) (fun _ _ => rfl) (fun _ _ _ => rfl)
    cases x <;> first | exact nof h | exact tup_pe (PAK.pa' ih ok h)
  | lst k l ih =>
    refine .mkE (fun X c x ok h => ?_) (fun _ _ => rfl) (fun _ _ _ => rfl) (fun _ _ => rfl) (fun _ _ => rfl) (fun _ _ _ => rfl)
    cases x <;> first | exact nof h | exact lst_pe (PAK.pa' ih ok h)
  | dict k l ih =>
    refine .mkE (fun X c x ok h => ?_) (fun _ _ => rfl) (fun _ _ _ => rfl) (fun _ _ => rfl) (fun _ _ => rfl) (fun _ _ _ => rfl)
    cases x <;> first | exact nof h | skip
    rename_i ks vs p
    simp only [ck, Bool.and_eq_true, decide_eq_true_eq] at h
    have hd := ih.pd X c ks vs ok h.1
    cases ks with
    | nil =>
      have hv : vs = [] := by simpa using hd.len.symm
      subst hv
      cases l <;> first | exact dict_nil_pe | (first | exact nof h.1 | (rename_i a r; cases r <;> exact nof h.1))
    | cons x ks => exact dict_pe hd (by simp) h.2
  | ix a b iha ihb =>
    refine .mkE (fun X c x ok h => ?_) (fun _ _ => rfl) (fun _ _ _ => rfl) (fun _ _ => rfl) (fun _ _ => rfl) (fun _ _ _ => rfl)
    cases x <;> first | exact nof h | skip
    simp only [ck, Bool.and_eq_true] at h
    exact ix_pe ok (iha.pe X c _ ok h.1.1) (ihb.pe X c _ ok h.1.2) h.2
  | sl a lo hi iha ihl ihh =>
    refine .mkE (fun X c x ok h => ?_) (fun _ _ => rfl) (fun _ _ _ => rfl) (fun _ _ => rfl) (fun _ _ => rfl) (fun _ _ _ => rfl)
    cases x <;> first | exact nof h | skip
    rename_i xa s p
    cases s <;> first | exact nof h | skip
    rename_i xl xh st p2
    cases st <;> first | exact nof h | skip
    simp only [ck, Bool.and_eq_true] at h
    exact sl_pe (iha.pe X c _ ok h.1.1) (ihl.po X c _ ok h.1.2) (ihh.po X c _ ok h.2)
  | rev a iha =>
    refine .mkE (fun X c x ok h => ?_) (fun _ _ => rfl) (fun _ _ _ => rfl) (fun _ _ => rfl) (fun _ _ => rfl) (fun _ _ _ => rfl)
    cases x <;> first | exact nof h | skip
    rename_i xa s p
    cases s <;> first | exact nof h | skip
    rename_i xl xh st p2
    cases xl <;> cases xh <;> cases st <;> first | exact nof h | skip
    simp only [ck, Bool.and_eq_true] at h
    exact rev_pe (iha.pe X c _ ok h.1) h.2
  | fld a f iha =>
    refine .mkE (fun X c x ok h => ?_) (fun _ _ => rfl) (fun _ _ _ => rfl) (fun _ _ => rfl) (fun _ _ => rfl) (fun _ _ _ => rfl)
    cases x <;> first | exact nof h | skip
    rename_i xa n p
    simp only [ck, Bool.and_eq_true, beq_iff_eq] at h
    obtain ⟨⟨h1, rfl⟩, h2⟩ := h
    exact fld_pe (iha.pe X c _ ok h1) (by intro f a k p he; subst he; exact nof h2)
  | call f l sel backs ih =>
    refine .mkE (fun X c x ok h => ?_) (fun _ _ => rfl) (fun _ _ _ => rfl) (fun _ _ => rfl) (fun _ _ => rfl) (fun _ _ _ => rfl)
    cases x <;> first | exact nof h | skip
    rename_i xf xs kws p
    cases xf <;> first | exact nof h | skip
    simp only [ck, Bool.and_eq_true, decide_eq_true_eq, beq_iff_eq, Bool.or_eq_true, List.isEmpty_iff, List.all_eq_true, List.contains_iff_mem] at h
    obtain ⟨⟨⟨⟨⟨⟨⟨⟨⟨⟨rfl, h2⟩, h3⟩, h4⟩, h5⟩, h6⟩, h7⟩, h8⟩, h9⟩, h10⟩, h11⟩ := h
    split at h11
    · rename_i ks hks
      exact dcall_pe ok (by simpa using h11) h2 h3 hks h4 h5 h6 h7 h8 h9 h10 (ih.pa X c xs kws ok h4) (ckA_starP X.env h4)
    · cases h11
  | blt f l ih =>
    refine .mkE (fun X c x ok h => ?_) (fun _ _ => rfl) (fun _ _ _ => rfl) (fun _ _ => rfl) (fun _ _ => rfl) (fun _ _ _ => rfl)
    cases x <;> first | exact nof h | skip
    rename_i xf xs kws p
    cases xf <;> first | exact nof h | skip
    cases kws <;> first | exact nof h | skip
    simp only [ck, Bool.and_eq_true, beq_iff_eq, Bool.not_eq_true'] at h
    obtain ⟨⟨⟨⟨rfl, h2⟩, h3⟩, h4⟩, h5⟩ := h
    cases xs with
    | nil => simp at h5
    | cons x xs =>
      have h6 := ckA_star (tb := tb) X.env h3
      exact blt_pe ok h2 (PAK.pa' ih ok h3) h6 (star_tail h6)
  | mth m o l iho ihl =>
    refine .mkE (fun X c x ok h => ?_) (fun _ _ => rfl) (fun _ _ _ => rfl) (fun _ _ => rfl) (fun _ _ => rfl) (fun _ _ _ => rfl)
    cases m <;> first | exact nof h | skip
    cases x <;> first | exact nof h | skip
    rename_i xf xs kws p
    cases xf <;> first | exact nof h | skip
    cases kws <;> first | exact nof h | skip
    simp only [ck, Bool.and_eq_true, beq_iff_eq, Bool.not_eq_true', decide_eq_true_eq] at h
    obtain ⟨⟨⟨⟨⟨⟨⟨rfl, h2⟩, h3⟩, h4⟩, h5⟩, h6⟩, h7⟩, h8⟩ := h
    refine get_pe ok (iho.pe X c _ ok h2) (PAK.pa' ihl ok h3) (fun f a k p e => ?_) (by simpa using h5) (ckA_star X.env h3) h6
    subst e; exact nof h7
  | mutv m i l ih =>
    refine .mkE (fun X c x ok h => ?_) (fun _ _ => rfl) (fun _ _ _ => rfl) (fun _ _ => rfl) (fun _ _ => rfl) (fun _ _ _ => rfl)
    cases x <;> first | exact nof h | skip
    rename_i xf xs kws p
    cases xf <;> first | exact nof h | skip
    rename_i xo n apos
    cases kws <;> cases xo <;> first | exact nof h | skip
    simp only [ck, Bool.and_eq_true, beq_iff_eq, decide_eq_true_eq] at h
    obtain ⟨⟨⟨⟨⟨rfl, h2⟩, h3⟩, h4⟩, h5⟩, h6⟩ := h
    exact mutv_pe ok h2 (PAK.pa' ih ok h3) (by simpa using h5) (ckA_star X.env h3) h6
  | mutk m i k l ih =>
    refine .mkE (fun X c x ok h => ?_) (fun _ _ => rfl) (fun _ _ _ => rfl) (fun _ _ => rfl) (fun _ _ => rfl) (fun _ _ _ => rfl)
    cases x <;> first | exact nof h | skip
    rename_i xf xs kws p
    cases xf <;> first | exact nof h | skip
    rename_i xo n apos
    cases kws <;> cases xo <;> first | exact nof h | (simp [ck] at h; done) | skip
    rename_i xd xk ps
    cases xd <;> cases xk <;> first | exact nof h | skip
    rename_i kc u pk
    cases kc <;> first | exact nof h | skip
    simp only [ck, Bool.and_eq_true, beq_iff_eq, decide_eq_true_eq] at h
    obtain ⟨⟨⟨⟨⟨⟨⟨rfl, rfl⟩, h2⟩, h3⟩, hq⟩, h4⟩, h5⟩, h6⟩ := h
    exact mutk_pe ok h2 (PAK.pa' ih ok h3) hq (by simpa using h5) (ckA_star X.env h3) h6
  | lc k own elt tg it cnd ihe ihi ihc =>
    refine .mkE (fun X c x ok h => ?_) (fun _ _ => rfl) (fun _ _ _ => rfl) (fun _ _ => rfl) (fun _ _ => rfl) (fun _ _ _ => rfl)
    cases x <;> first | exact nof h | skip
    rename_i xe gs scope p
    rcases gs with _ | ⟨⟨xt, xi, ifs, isa⟩, _ | ⟨g2, gs⟩⟩ <;> first | exact nof h | skip
    · rcases isa with (_ | a) | a <;> first | exact nof h | skip
      have h : (ckI tb c it xt xi && blkC c.N c.sc scope (own.map fun i => ((c.N[i]?).getD Str.empty, i)) && (tgSlots tg).all own.contains && ckTg (blkK c scope) tg xt && ck tb (blkK c scope) elt xe &&
        cndOk tb (blkK c scope) cnd ifs) = true := h
      simp only [Bool.and_eq_true] at h
      obtain ⟨⟨⟨⟨⟨h1, h2⟩, h3⟩, h4⟩, h5⟩, h6⟩ := h
      refine (show PE X (.ListComp xe [⟨xt, xi, ifs, 0⟩] scope p) _ from ?_)
      refine lc_pe ok (ihi.pi X c xt xi ok h1) h2 h3 h4 (fun X' ok' => ihe.pe X' _ _ ok' h5) (fun X' ok' => ?_) (fun v => set_no (fun a k p e => ?_) v)
      · unfold cndOk at h6
        split at h6
        · split at h6
          · exact pts_yes
          · cases h6
        · exact pts_one (ihc.pt X' _ _ ok' h6)
        · cases h6
      · subst e
        cases it <;> first | exact nof h1 | (simp only [ckI, Bool.and_false, Bool.false_eq_true] at h1)
    · cases isa <;> (simp [ck] at h)
  | isin a t ih =>
    refine .mkE (fun X c x ok h => ?_) (fun _ _ => rfl) (fun _ _ _ => rfl) (fun _ _ => rfl) (fun _ _ => rfl) (fun _ _ _ => rfl)
    cases x <;> first | exact nof h | skip
    rename_i xf xs kws p
    cases xf <;> first | exact nof h | skip
    rcases xs with _ | ⟨xa, _ | ⟨xb, _ | ⟨xc, xs⟩⟩⟩ <;> cases kws <;> first | exact nof h | (cases xb <;> exact nof h) | skip
    cases xb <;> first | exact nof h | skip
    simp only [ck, Bool.and_eq_true, beq_iff_eq] at h
    obtain ⟨⟨⟨⟨rfl, h2⟩, h3⟩, rfl⟩, h5⟩ := h
    exact isin_pe ok h2 h5 (ih.pe X c _ ok h3) (fun es => star1 h3 es)
  | lrng1 a ih =>
    refine .mkE (fun X c x ok h => ?_) (fun _ _ => rfl) (fun _ _ _ => rfl) (fun _ _ => rfl) (fun _ _ => rfl) (fun _ _ _ => rfl)
    cases x <;> first | exact nof h | skip
    rename_i xf xs kws p
    cases xf <;> first | exact nof h | skip
    rcases xs with _ | ⟨xa, _ | ⟨xb, xs⟩⟩ <;> cases kws <;> first | exact nof h | (cases xa <;> exact nof h) | (simp [ck] at h; done) | skip
    cases xa <;> first | exact nof h | skip
    rename_i xf ys kws p2
    cases xf <;> first | exact nof h | skip
    rcases ys with _ | ⟨ya, _ | ⟨yb, ys⟩⟩ <;> cases kws <;> first | exact nof h | skip
    simp only [ck, Bool.and_eq_true, beq_iff_eq] at h
    obtain ⟨⟨⟨⟨rfl, rfl⟩, h2⟩, h3⟩, h4⟩ := h
    exact lrng1_pe ok h2 h3 (ih.pe X c _ ok h4) (star1 h4 [])
  | lrng2 a b iha ihb =>
    refine .mkE (fun X c x ok h => ?_) (fun _ _ => rfl) (fun _ _ _ => rfl) (fun _ _ => rfl) (fun _ _ => rfl) (fun _ _ _ => rfl)
    cases x <;> first | exact nof h | skip
    rename_i xf xs kws p
    cases xf <;> first | exact nof h | skip
    rcases xs with _ | ⟨xa, _ | ⟨xb, xs⟩⟩ <;> cases kws <;> first | exact nof h | (cases xa <;> exact nof h) | (simp [ck] at h; done) | skip
    cases xa <;> first | exact nof h | skip
    rename_i xf ys kws p2
    cases xf <;> first | exact nof h | skip
    rcases ys with _ | ⟨ya, _ | ⟨yb, _ | ⟨yc, ys⟩⟩⟩ <;> cases kws <;> first | exact nof h | skip
    simp only [ck, Bool.and_eq_true, beq_iff_eq] at h
    obtain ⟨⟨⟨⟨⟨rfl, rfl⟩, h2⟩, h3⟩, h4⟩, h5⟩ := h
    exact lrng2_pe ok h2 h3 (iha.pe X c _ ok h4) (ihb.pe X c _ ok h5) (star1 h4 _) (star1 h5 [])
  | tnot a ih =>
    refine .mkT (fun _ _ => rfl) (fun _ _ => rfl) (fun _ _ _ => rfl) (fun _ _ => rfl) (fun X c x ok h => ?_) (fun X c op xs p ok h => nof h) (fun _ _ _ => rfl)
    cases x <;> first | exact nof h | skip
    rename_i op x p
    cases op <;> first | exact nof h | exact tnot_pt (ih.pt X c x ok h)
  | tand a b iha ihb =>
    have key : ∀ (X : Cx) (c : CkC) (op : BoolOp) (xs : List Expr) (p : Pos), XOk X tb cf c → ckT tb c (.tand a b) (.BoolOp op xs p) = true → PW X (.BoolOp op xs p) (tIT X.K cf (.tand a b)) := by
      intro X c op vs p ok h
      rcases vs with _ | ⟨xa, _ | ⟨xb, r⟩⟩ <;> cases op <;> first | exact nof h | skip
      cases r with
      | nil =>
        simp only [ckT, Bool.and_eq_true] at h
        exact tand_pw (iha.pt X c _ ok h.1) (pw_and1 (ihb.pt X c _ ok h.2))
      | cons y r =>
        simp only [ckT, Bool.and_eq_true] at h
        exact tand_pw (iha.pt X c _ ok h.1) (ihb.pw X c _ _ _ ok h.2)
    refine .mkT (fun _ _ => rfl) (fun _ _ => rfl) (fun _ _ _ => rfl) (fun _ _ => rfl) (fun X c x ok h => ?_) key (fun _ _ _ => rfl)
    cases x <;> first | exact nof h | exact (key X c _ _ _ ok h).pt
  | tor a b iha ihb =>
    have key : ∀ (X : Cx) (c : CkC) (op : BoolOp) (xs : List Expr) (p : Pos), XOk X tb cf c → ckT tb c (.tor a b) (.BoolOp op xs p) = true → PW X (.BoolOp op xs p) (tIT X.K cf (.tor a b)) := by
      intro X c op vs p ok h
      rcases vs with _ | ⟨xa, _ | ⟨xb, r⟩⟩ <;> cases op <;> first | exact nof h | skip
      cases r with
      | nil =>
        simp only [ckT, Bool.and_eq_true] at h
        exact tor_pw (iha.pt X c _ ok h.1) (pw_or1 (ihb.pt X c _ ok h.2))
      | cons y r =>
        simp only [ckT, Bool.and_eq_true] at h
        exact tor_pw (iha.pt X c _ ok h.1) (ihb.pw X c _ _ _ ok h.2)
    refine .mkT (fun _ _ => rfl) (fun _ _ => rfl) (fun _ _ _ => rfl) (fun _ _ => rfl) (fun X c x ok h => ?_) key (fun _ _ _ => rfl)
    cases x <;> first | exact nof h | exact (key X c _ _ _ ok h).pt
  | tval a ih =>
    refine .mkT (fun _ _ => rfl) (fun _ _ => rfl) (fun _ _ _ => rfl) (fun _ _ => rfl) (fun X c x ok h => ?_) (fun X c op xs p ok h => ?_) (fun _ _ _ => rfl)
    · simp only [ckT, Bool.and_eq_true] at h
      refine tval_pt (ih.pe X c x ok h.1) fun w => ?_
      obtain ⟨-, h2⟩ := h
      cases x <;> first | rfl | exact nof h2 | skip
      rename_i op x p
      cases op <;> first | rfl | exact nof h2
    · simp only [ckT, Bool.and_false, Bool.false_eq_true] at h
  | tyes =>
    exact .mkT (fun _ _ => rfl) (fun _ _ => rfl) (fun _ _ _ => rfl) (fun _ _ => rfl) (fun X c x ok h => nof h) (fun X c op xs p ok h => nof h) (fun _ _ _ => rfl)
  | tcmp o a b iha ihb =>
    refine .mkT (fun _ _ => rfl) (fun _ _ => rfl) (fun _ _ _ => rfl) (fun _ _ => rfl) (fun X c x ok h => ?_) (fun X c op xs p ok h => nof h) (fun _ _ _ => rfl)
    cases x <;> first | exact nof h | skip
    rename_i xa ops cs p
    rcases ops with _ | ⟨o', _ | ⟨o2, ops⟩⟩ <;> rcases cs with _ | ⟨xb, _ | ⟨x2, cs⟩⟩ <;> first | exact nof h | (cases ops <;> exact nof h) | (rcases ops with _ | ⟨_, _⟩ <;> cases cs <;> exact nof h) | skip
    simp only [ckT, Bool.and_eq_true, beq_iff_eq, Bool.not_eq_true'] at h
    obtain ⟨⟨⟨rfl, h1⟩, h2⟩, h3⟩ := h
    exact tcmp_pt ok (iha.pe X c _ ok h1) (ihb.pe X c _ ok h2) h3
  | tchain o p a b d iha ihb ihd =>
    refine .mkT (fun _ _ => rfl) (fun _ _ => rfl) (fun _ _ _ => rfl) (fun _ _ => rfl) (fun X c x ok h => ?_) (fun X c op xs p ok h => nof h) (fun _ _ _ => rfl)
    cases x <;> first | exact nof h | skip
    rename_i xa ops cs pp
    rcases ops with _ | ⟨o', _ | ⟨o2, _ | ⟨o3, ops⟩⟩⟩ <;> rcases cs with _ | ⟨xb, _ | ⟨x2, _ | ⟨x3, cs⟩⟩⟩ <;> first | exact nof h | skip
    simp only [ckT, Bool.and_eq_true, beq_iff_eq, Bool.not_eq_true'] at h
    obtain ⟨⟨⟨⟨⟨rfl, rfl⟩, h1⟩, h2⟩, h3⟩, h4⟩ := h
    exact tchain_pt ok (iha.pe X c _ ok h1) (ihb.pe X c _ ok h2) (ihd.pe X c _ ok h3) h4
  | tchain3 o p q a b d g iha ihb ihd ihg =>
    refine .mkT (fun _ _ => rfl) (fun _ _ => rfl) (fun _ _ _ => rfl) (fun _ _ => rfl) (fun X c x ok h => ?_) (fun X c op xs p ok h => nof h) (fun _ _ _ => rfl)
    cases x <;> first | exact nof h | skip
    rename_i xa ops cs pp
    rcases ops with _ | ⟨o', _ | ⟨o2, _ | ⟨o3, _ | ⟨o4, ops⟩⟩⟩⟩ <;> rcases cs with _ | ⟨xb, _ | ⟨x2, _ | ⟨x3, _ | ⟨x4, cs⟩⟩⟩⟩ <;> first | exact nof h | skip
    simp only [ckT, Bool.and_eq_true, beq_iff_eq, Bool.not_eq_true'] at h
    obtain ⟨⟨⟨⟨⟨⟨⟨rfl, rfl⟩, rfl⟩, h1⟩, h2⟩, h3⟩, h5⟩, h4⟩ := h
    exact tchain3_pt ok (iha.pe X c _ ok h1) (ihb.pe X c _ ok h2) (ihd.pe X c _ ok h3) (ihg.pe X c _ ok h5) h4
  | mcall f o l iho ihl =>
    refine .mkE (fun X c x ok h => ?_) (fun _ _ => rfl) (fun _ _ _ => rfl) (fun _ _ => rfl) (fun _ _ => rfl) (fun _ _ _ => rfl)
    cases x <;> first | exact nof h | skip
    rename_i xf ys kws p2
    cases xf <;> first | exact nof h | (cases ys <;> exact nof h) | skip
    rename_i xo n apos
    cases kws <;> first | exact nof h | skip
    simp only [ck, Bool.and_eq_true, beq_iff_eq, decide_eq_true_eq, List.any_eq_true] at h
    obtain ⟨⟨⟨⟨⟨⟨h1, h2⟩, h3⟩, h4⟩, h5⟩, h6⟩, ms, hms, ⟨rfl, rfl⟩, hnp⟩ := h
    exact mcall_pe ok hms hnp (iho.pe X c _ ok h1) (PAK.pa' ihl ok h2) h2 (fun f a k p e => by subst e; exact nof h6) (by simpa using h4) (ckA_star X.env h2) h5
  | neq f a b iha ihb =>
    refine .mkE (fun X c x ok h => ?_) (fun _ _ => rfl) (fun _ _ _ => rfl) (fun _ _ => rfl) (fun _ _ => rfl) (fun _ _ _ => rfl)
    cases x <;> first | exact nof h | skip
    rename_i xa ops cs p
    rcases ops with _ | ⟨o', _ | ⟨o2, ops⟩⟩ <;> rcases cs with _ | ⟨xb, _ | ⟨x2, cs⟩⟩ <;> first | exact nof h | (cases o' <;> exact nof h) | (cases ops <;> exact nof h) | (rcases ops with _ | ⟨_, _⟩ <;> cases cs <;> exact nof h) | (cases o' <;> cases ops <;> exact nof h) | (cases o' <;> rcases ops with _ | ⟨_, _⟩ <;> cases cs <;> exact nof h) | skip
    cases o' <;> first | exact nof h | skip
    have h : (ck tb c a xa && ck tb c b xb && !behindInMarks .NotEq xb && tb.nes.any fun ms => ms.f == f) = true := h
    simp only [Bool.and_eq_true, beq_iff_eq, Bool.not_eq_true', List.any_eq_true] at h
    obtain ⟨⟨⟨h1, h2⟩, h3⟩, ms, hms, rfl⟩ := h
    exact neq_pe ok hms (iha.pe X c _ ok h1) (ihb.pe X c _ ok h2) h3
  | tneq f a b iha ihb =>
    refine .mkT (fun _ _ => rfl) (fun _ _ => rfl) (fun _ _ _ => rfl) (fun _ _ => rfl) (fun X c x ok h => ?_) (fun X c op xs p ok h => nof h) (fun _ _ _ => rfl)
    cases x <;> first | exact nof h | skip
    rename_i xa ops cs p
    rcases ops with _ | ⟨o', _ | ⟨o2, ops⟩⟩ <;> rcases cs with _ | ⟨xb, _ | ⟨x2, cs⟩⟩ <;> first | exact nof h | (cases o' <;> exact nof h) | (cases ops <;> exact nof h) | (rcases ops with _ | ⟨_, _⟩ <;> cases cs <;> exact nof h) | (cases o' <;> cases ops <;> exact nof h) | (cases o' <;> rcases ops with _ | ⟨_, _⟩ <;> cases cs <;> exact nof h) | skip
    cases o' <;> first | exact nof h | skip
    have h : (ck tb c a xa && ck tb c b xb && !behindInMarks .NotEq xb && tb.nes.any fun ms => ms.f == f) = true := h
    simp only [Bool.and_eq_true, beq_iff_eq, Bool.not_eq_true', List.any_eq_true] at h
    obtain ⟨⟨⟨h1, h2⟩, h3⟩, ms, hms, rfl⟩ := h
    exact tneq_pt ok hms (iha.pe X c _ ok h1) (ihb.pe X c _ ok h2) h3
  | isc c0 a ih =>
    refine .mkE (fun X c x ok h => ?_) (fun _ _ => rfl) (fun _ _ _ => rfl) (fun _ _ => rfl) (fun _ _ => rfl) (fun _ _ _ => rfl)
    cases x <;> first | exact nof h | skip
    rename_i xf ys kws p2
    cases xf <;> first | exact nof h | skip
    rename_i x p
    rcases ys with _ | ⟨ya, _ | ⟨yb, _ | ⟨yc, ys⟩⟩⟩ <;> cases kws <;> first | exact nof h | (cases yb <;> exact nof h) | skip
    cases yb <;> first | exact nof h | skip
    simp only [ck, Bool.and_eq_true, beq_iff_eq] at h
    obtain ⟨⟨⟨⟨⟨⟨rfl, h1⟩, h2⟩, h3⟩, h4⟩, rfl⟩, h5⟩ := h
    exact isc_pe ok h1 h3 h4 (by simpa using h5) (ih.pe X c _ ok h2) (fun es => star1 h2 es)
  | tq a ih =>
    refine .mkT (fun _ _ => rfl) (fun _ _ => rfl) (fun _ _ _ => rfl) (fun _ _ => rfl) (fun X c x ok h => ?_) (fun X c op xs p ok h => ?_) (fun _ _ _ => rfl)
    · have h : (ckT tb c a x && quiet a) = true := h
      rw [Bool.and_eq_true] at h
      exact tq_pt (ih.pt X c x ok h.1) h.2
    · have h : (ckT tb c a (.BoolOp op xs p) && quiet a) = true := h
      rw [Bool.and_eq_true] at h
      exact tq_pw (ih.pw X c op xs p ok h.1) h.2
  | ival a ih =>
    refine .mkI (fun _ _ => rfl) (fun _ _ => rfl) (fun _ _ _ => rfl) (fun _ _ => rfl) (fun X c x ok h => ?_) (fun X c xt x ok h => ?_)
    · cases x <;> first | exact nof h | exact po_ival (ih.pe X c _ ok h)
    · simp only [ckI, Bool.and_eq_true] at h
      exact ival_pi (ih.pe X c x ok h.1)
  | irng1 a ih =>
    refine .mkI (fun _ _ => rfl) (fun _ _ => rfl) (fun _ _ _ => rfl) (fun _ _ => rfl) (fun X c x ok h => nof h) (fun X c xt x ok h => ?_)
    cases x <;> first | exact nof h | skip
    rename_i xf ys kws p2
    cases xf <;> first | exact nof h | skip
    rcases ys with _ | ⟨ya, _ | ⟨yb, ys⟩⟩ <;> cases kws <;> first | exact nof h | skip
    simp only [ckI, Bool.and_eq_true, beq_iff_eq] at h
    obtain ⟨⟨rfl, h3⟩, h4⟩ := h
    exact irng1_pi ok h3 (ih.pe X c _ ok h4) (star1 h4 [])
  | irng2 a b iha ihb =>
    refine .mkI (fun _ _ => rfl) (fun _ _ => rfl) (fun _ _ _ => rfl) (fun _ _ => rfl) (fun X c x ok h => nof h) (fun X c xt x ok h => ?_)
    cases x <;> first | exact nof h | skip
    rename_i xf ys kws p2
    cases xf <;> first | exact nof h | skip
    rcases ys with _ | ⟨ya, _ | ⟨yb, _ | ⟨yc, ys⟩⟩⟩ <;> cases kws <;> first | exact nof h | skip
    simp only [ckI, Bool.and_eq_true, beq_iff_eq] at h
    obtain ⟨⟨⟨rfl, h3⟩, h4⟩, h5⟩ := h
    exact irng2_pi ok h3 (iha.pe X c _ ok h4) (ihb.pe X c _ ok h5) (by rw [star1 h4, star1 h5]; rfl) (star1 h5 [])
  | lend i => exact .mkE (fun X c x ok h => nof h) (fun _ _ => rfl) (fun _ _ _ => rfl) (fun _ _ => rfl) (fun _ _ => rfl) (fun _ _ _ => rfl)
  | irng3 a b d iha ihb ihd =>
    refine .mkI (fun _ _ => rfl) (fun _ _ => rfl) (fun _ _ _ => rfl) (fun _ _ => rfl) (fun X c x ok h => nof h) (fun X c xt x ok h => ?_)
    cases x <;> first | exact nof h | skip
    rename_i xf ys kws p2
    cases xf <;> first | exact nof h | skip
    rcases ys with _ | ⟨ya, _ | ⟨yb, _ | ⟨yc, _ | ⟨yd, ys⟩⟩⟩⟩ <;> cases kws <;> first | exact nof h | skip
    simp only [ckI, Bool.and_eq_true, beq_iff_eq] at h
    obtain ⟨⟨⟨⟨rfl, h3⟩, h4⟩, h5⟩, h6⟩ := h
    exact irng3_pi ok h3 (iha.pe X c _ ok h4) (ihb.pe X c _ ok h5) (ihd.pe X c _ ok h6) (by rw [star1 h4, star1 h5, star1 h6]; rfl) (by rw [star1 h5, star1 h6]; rfl) (star1 h6 [])
  | ienum a ih =>
    refine .mkI (fun _ _ => rfl) (fun _ _ => rfl) (fun _ _ _ => rfl) (fun _ _ => rfl) (fun X c x ok h => nof h) (fun X c xt x ok h => ?_)
    cases x <;> first | exact nof h | skip
    rename_i xf ys kws p2
    cases xf <;> first | exact nof h | skip
    rcases ys with _ | ⟨ya, _ | ⟨yb, ys⟩⟩ <;> cases kws <;> first | exact nof h | skip
    simp only [ckI, Bool.and_eq_true, beq_iff_eq] at h
    obtain ⟨⟨⟨rfl, h3⟩, h4⟩, h5⟩ := h
    cases xt <;> first | exact nof h5 | exact ienum_pi ok h3 (ih.pe X c _ ok h4) (star1 h4 [])
  | izip a b iha ihb => exact .mkE (fun X c x ok h => nof h) (fun _ _ => rfl) (fun _ _ _ => rfl) (fun _ _ => rfl) (fun _ _ => rfl) (fun _ _ _ => rfl)
end
end Pi
/-! Pi19: statements: readings, parts. -/
namespace Pi
open PySem L2
def Kp (kp : List Nat) (σ σ' : St) : Prop := ∀ i ∈ kp, σ'[i]? = σ[i]?
theorem Kp.refl (kp : List Nat) (σ : St) : Kp kp σ σ := fun _ _ => rfl
theorem Kp.trans {kp : List Nat} {a b c : St} (h : Kp kp a b) (k : Kp kp b c) : Kp kp a c := fun i m => (k i m).trans (h i m)
def PostF (K : PySem.W.Frag) (kp : List Nat) (σ : St) (H : Hp) (fp fz : List Addr) (fl : Fl) (ρ' : Env) (D : Ends) : Prop := match fl with
  | .nx => ∀ σ' H' f z, SL K H' σ' ρ' f z → Disj f z → Ext false H fp fz H' f z → Kp kp σ σ' → D.nx σ' H'
  | .bk => ∀ σ' H' f z, SL K H' σ' ρ' f z → Disj f z → Ext false H fp fz H' f z → Kp kp σ σ' → D.bk σ' H'
  | .ct => ∀ σ' H' f z, SL K H' σ' ρ' f z → Disj f z → Ext false H fp fz H' f z → Kp kp σ σ' → D.ct σ' H'
  | .rt d => ∀ v σ' H' f1 z1 f z, Rep K H' d.1 d.2 v f1 z1 → SL K H' σ' ρ' f z → Disj (f1 ++ f) (z1 ++ z) → Ext false H fp fz H' (f1 ++ f) (z1 ++ z) → Kp kp σ σ' → D.rt v H'
def tSI (K : PySem.W.Frag) (cf : Cf) (kp : List Nat) (sm : Sm) : TS := fun D σ H => ∃ ρ fp fz fl ρ', SL K H σ ρ fp fz ∧ Disj fp fz ∧ exec cf sm ρ = .ok fl ρ' ∧ PostF K kp σ H fp fz fl ρ' D
theorem postf_then {K : PySem.W.Frag} {kp : List Nat} {σ σ1 : St} {H H1 : Hp} {fp fz f1 z1 f0 z0 : List Addr} {fl : Fl} {ρ' : Env} {D : Ends} (x : Ext false H fp fz H1 (f0 ++ f1) (z0 ++ z1)) (k : Kp kp σ σ1) (p : PostF K kp σ H fp fz fl ρ' D) : PostF K kp σ1 H1 f1 z1 fl ρ' D := by
  have x' : Ext false H fp fz H1 f1 z1 := x.to (fun a m => List.mem_append_right _ m) fun a m => .inr (List.mem_append_right _ m)
  cases fl with
  | nx => exact fun σ' H' f z s d e k' => p σ' H' f z s d (x'.trans0 e) (k.trans k')
  | bk => exact fun σ' H' f z s d e k' => p σ' H' f z s d (x'.trans0 e) (k.trans k')
  | ct => exact fun σ' H' f z s d e k' => p σ' H' f z s d (x'.trans0 e) (k.trans k')
  | rt d => exact fun v σ' H' f1 z1 f z r s d e k' => p v σ' H' f1 z1 f z r s d (x'.trans0 e) (k.trans k')
section
variable {X : Cx} {tb : Tb} {cf : Cf} {c : CkC} {kp : List Nat}
theorem ps_imp {st : Stmt} {t t' : TS} (h : PS X st t) (i : ∀ D σ H, σ.length = X.N.length → t' D σ H → t D σ H) : PS X st t' := ⟨fun pins s σ H D I q => h.run pins s σ H D I (i D σ H I.len q)⟩
theorem pss_imp {st : List Stmt} {t t' : TS} (h : PSs X st t) (i : ∀ D σ H, σ.length = X.N.length → t' D σ H → t D σ H) : PSs X st t' := ⟨fun pins s σ H D I q => h.run pins s σ H D I (i D σ H I.len q)⟩
theorem seq_pss {st : Stmt} {r : List Stmt} {a b : Sm} (ia : PS X st (tSI X.K cf kp a)) (ib : PSs X r (tSI X.K cf kp b)) : PSs X (st :: r) (tSI X.K cf kp (.seq a b)) := by
  refine pss_imp (pss_cons ia ib) fun D σ H _ ⟨ρ, fp, fz, fl, ρ', s, dj, e, p⟩ => ?_
  simp only [exec] at e
  obtain ⟨f1, ρ1, e1, e2⟩ := bind_inv e
  refine ⟨ρ, fp, fz, f1, ρ1, s, dj, e1, ?_⟩
  cases f1 with
  | nx => exact fun σ' H' f z s' d' x k => ⟨ρ1, f, z, fl, ρ', s', d', e2, postf_then (f0 := []) (z0 := []) x k p⟩
  | bk => cases e2; exact p
  | ct => cases e2; exact p
  | rt d => cases e2; exact p
theorem skip_pss : PSs X [] (tSI X.K cf kp .skip) := pss_imp pss_nil fun D σ H _ ⟨ρ, fp, fz, fl, ρ', s, dj, e, p⟩ => by
  simp only [exec] at e
  cases e
  exact p σ H fp fz s dj (.refl _ _ _ _) (.refl _ _)
theorem skip_ps {pos : Pos} : PS X (.Pass pos) (tSI X.K cf kp .skip) := ps_imp ps_pass fun D σ H _ ⟨ρ, fp, fz, fl, ρ', s, dj, e, p⟩ => by
  simp only [exec] at e
  cases e
  exact p σ H fp fz s dj (.refl _ _ _ _) (.refl _ _)
theorem doc_pss {x : Str} {j : Nat} {p q : Pos} {r : List Stmt} {a : Sm} (ia : PSs X r (tSI X.K cf kp a)) : PSs X (.Expr (.Constant (.str x) j p) q :: r) (tSI X.K cf kp a) :=
  pss_imp (pss_cons ps_doc ia) fun D σ H _ h => h
theorem retn_ps {pos : Pos} : PS X (.Return none pos) (tSI X.K cf kp .retn) := ps_imp ps_retN fun D σ H _ ⟨ρ, fp, fz, fl, ρ', s, dj, e, p⟩ => by
  simp only [exec] at e
  cases e
  exact p .non σ H [] [] fp fz (by simp [Rep]) s dj (.refl _ _ _ _) (.refl _ _)
theorem brk_ps {pos : Pos} : PS X (.Break pos) (tSI X.K cf kp .brk) := ps_imp ps_break fun D σ H _ ⟨ρ, fp, fz, fl, ρ', s, dj, e, p⟩ => by
  simp only [exec] at e
  cases e
  exact p σ H fp fz s dj (.refl _ _ _ _) (.refl _ _)
theorem cnt_ps {pos : Pos} : PS X (.Continue pos) (tSI X.K cf kp .cnt) := ps_imp ps_continue fun D σ H _ ⟨ρ, fp, fz, fl, ρ', s, dj, e, p⟩ => by
  simp only [exec] at e
  cases e
  exact p σ H fp fz s dj (.refl _ _ _ _) (.refl _ _)
theorem never_ps {st : Stmt} : PS X st (tSI X.K cf kp .never) := ps_imp ps_never fun D σ H _ ⟨ρ, fp, fz, fl, ρ', s, dj, e, p⟩ => by
  simp only [exec] at e
  cases e
/-- an expression first: the value is a temporary -/
theorem ex_step {e : Ex} {σ : St} {H : Hp} {fp fz : List Addr} {ρ ρ1 : Env} {x : Sl} {R : VK} (s : SL X.K H σ ρ fp fz) (dj : Disj fp fz) (he : ev cf e ρ = .ok x ρ1)
    (k : ∀ v H' f1 z1 f z, Rep X.K H' x.1 x.2 v f1 z1 → SL X.K H' σ ρ1 f z → Disj (f1 ++ f) (z1 ++ z) → Ext false H fp fz H' (f1 ++ f) (z1 ++ z) → R v H') : tI X.K cf e σ H R :=
  ⟨ρ, fp, fz, x, ρ1, s, dj, he, fun v H' f1 z1 f z r s' d' x' _ => k v H' f1 z1 f z r s' d' (x'.weak fun h => by cases h)⟩
theorem expr_ps {e : Ex} {x : Expr} {pos : Pos} (ie : PE X x (tI X.K cf e)) (hs : swapsWith x none pos.line X.env = pure false) : PS X (.Expr x pos) (tSI X.K cf kp (.expr e)) := by
  refine ps_imp (ps_expr ie hs) fun D σ H _ ⟨ρ, fp, fz, fl, ρ', s, dj, e, p⟩ => ?_
  simp only [exec] at e
  obtain ⟨v, ρ1, e1, e2⟩ := bind_inv e
  cases e2
  refine ex_step s dj e1 fun v H' f1 z1 f z r s' d' x' => p σ H' f z s' d'.right (x'.to (fun a m => List.mem_append_right _ m) fun a m => .inr (List.mem_append_right _ m)) (.refl _ _)
theorem ret_ps {e : Ex} {x : Expr} {pos : Pos} (ie : PE X x (tI X.K cf e)) : PS X (.Return (some x) pos) (tSI X.K cf kp (.ret e)) := by
  refine ps_imp (ps_ret ie) fun D σ H _ ⟨ρ, fp, fz, fl, ρ', s, dj, e, p⟩ => ?_
  simp only [exec] at e
  obtain ⟨v, ρ1, e1, e2⟩ := bind_inv e
  cases e2
  exact ex_step s dj e1 fun v H' f1 z1 f z r s' d' x' => p v σ H' f1 z1 f z r s' d' x' (.refl _ _)
theorem tt_step {e : Ex} {σ : St} {H : Hp} {fp fz : List Addr} {ρ ρ1 : Env} {b : Bool} {R : Bool → Hp → Prop} (s : SL X.K H σ ρ fp fz) (dj : Disj fp fz) (he : evT cf e ρ = .ok b ρ1)
    (k : ∀ H' f z, SL X.K H' σ ρ1 f z → Disj f z → Ext false H fp fz H' f z → R b H') : tIT X.K cf e σ H R :=
  ⟨ρ, fp, fz, b, ρ1, s, dj, he, fun H' f z s' d' x' => k H' f z s' d' (x'.weak fun h => by cases h)⟩
theorem ifs_ps {t : Ex} {a b : Sm} {x : Expr} {sa sb : List Stmt} {pos : Pos} (it : PT X x (tIT X.K cf t)) (ia : PSs X sa (tSI X.K cf kp a)) (ib : PSs X sb (tSI X.K cf kp b)) : PS X (.If x sa sb pos) (tSI X.K cf kp (.ifs t a b)) := by
  refine ps_imp (ps_if it ia ib) fun D σ H _ ⟨ρ, fp, fz, fl, ρ', s, dj, e, p⟩ => ?_
  simp only [exec] at e
  obtain ⟨v, ρ1, e1, e2⟩ := bind_inv e
  refine tt_step s dj e1 fun H' f z s' d' x' => ?_
  have p' := postf_then (f0 := []) (z0 := []) x' (Kp.refl kp σ) p
  cases v with
  | true => exact ⟨ρ1, f, z, fl, ρ', s', d', e2, p'⟩
  | false => exact ⟨ρ1, f, z, fl, ρ', s', d', e2, p'⟩
theorem whl_ps {t : Ex} {b : Sm} {x : Expr} {body : List Stmt} {pos : Pos} (hp : PassesOwn (model X.prog X.w) X.A X.env X.xe) (it : PT X x (tIT X.K cf t)) (ib : PSs X body (tSI X.K cf kp b)) : PS X (.While x body [] pos) (tSI X.K cf kp (.whl t b)) := by
  refine ps_imp (ps_while hp it ib) fun D σ H _ ⟨ρ, fp, fz, fl, ρ', s, dj, e, p⟩ => ?_
  simp only [exec] at e
  refine ⟨fun m σ1 H1 => ∃ ρ1 f z, SL X.K H1 σ1 ρ1 f z ∧ Disj f z ∧ whileL (evT cf t) (exec cf b) m ρ1 = .ok fl ρ' ∧ PostF X.K kp σ1 H1 f z fl ρ' D, ⟨cf.fuel, ρ, fp, fz, s, dj, e, p⟩, fun m σ1 H1 ⟨ρ1, f, z, s1, d1, e1, p1⟩ => ?_⟩
  cases m with
  | zero => cases e1
  | succ m =>
    simp only [whileL] at e1
    obtain ⟨v, ρ2, e2, e3⟩ := bind_inv e1
    refine tt_step s1 d1 e2 fun H' f' z' s' d' x' => ?_
    have p' := postf_then (f0 := []) (z0 := []) x' (Kp.refl kp σ1) p1
    cases v with
    | false =>
      simp only [Bool.false_eq_true, if_false] at e3 ⊢
      cases e3
      exact p' σ1 H' f' z' s' d' (.refl _ _ _ _) (.refl _ _)
    | true =>
      simp only [if_true] at e3 ⊢
      obtain ⟨f2, ρ3, e4, e5⟩ := bind_inv e3
      refine ⟨fun σ2 H2 => ∃ ρ1 f z, SL X.K H2 σ2 ρ1 f z ∧ Disj f z ∧ whileL (evT cf t) (exec cf b) m ρ1 = .ok fl ρ' ∧ PostF X.K kp σ2 H2 f z fl ρ' D, fun σ2 H2 w => ⟨m, by omega, w⟩, ρ2, f', z', f2, ρ3, s', d', e4, ?_⟩
      cases f2 with
      | nx => exact fun σ2 H2 f z s2 d2 x2 k2 => ⟨ρ3, f, z, s2, d2, e5, postf_then (f0 := []) (z0 := []) x2 k2 p'⟩
      | ct => exact fun σ2 H2 f z s2 d2 x2 k2 => ⟨ρ3, f, z, s2, d2, e5, postf_then (f0 := []) (z0 := []) x2 k2 p'⟩
      | bk => cases e5; exact p'
      | rt d => cases e5; exact p'
/-- what a store leaves -/
theorem kp_wipe {tg : Tg} {σ σ2 : St} (hw : ∀ vs, (∀ i ∈ tgSlots tg, i ∈ vs) → wipe σ2 vs = wipe σ vs) (hk : ∀ i ∈ tgSlots tg, i ∉ kp) : Kp kp σ σ2 := fun i m => by
  have h := hw (tgSlots tg) fun _ h => h
  have n : i ∉ tgSlots tg := fun m' => hk i m' m
  rw [← wipe_out (σ := σ2) n, h, wipe_out n]
theorem fors_ps {t : Tg} {it : Ex} {b : Sm} {xt xi : Expr} {body : List Stmt} {pos : Pos} (ok : XOk X tb cf c) (hp : PassesOwn (model X.prog X.w) X.A X.env X.xe) (ii : PI X xt xi (tII X.K cf it)) (ht : ckTg c t xt = true) (hk : ∀ i ∈ tgSlots t, i ∉ kp) (ib : PSs X body (tSI X.K cf kp b)) (hs : ∀ x, foldedSetIterable xi X.env x = pure x) :
    PS X (.For xt xi body [] pos) (tSI X.K cf kp (.fors none t it b)) := by
  obtain ⟨hg, hT⟩ := tg_ok ok ht
  refine ps_imp (ps_for hp ok.calm ii hg ib hs) fun D σ H hl ⟨ρ, fp, fz, fl, ρ', s, dj, e, p⟩ => ?_
  simp only [exec] at e
  obtain ⟨xs, ρ1, e1, e2⟩ := bind_inv e
  refine ⟨ρ, fp, fz, xs, ρ1, s, dj, e1, fun J H1 hold zI f2 z2 itk hh s1 d1 x1 => ?_⟩
  have x1 := x1.weak (b' := false) (fun h => by cases h)
  let bodyF : Pi.D → Env → Rs Fl := fun x ρ => match setT t x ρ with | some ρ2 => exec cf b ρ2 | none => .stk
  let W : Nat → Nat → St → Hp → Prop := fun i m σ1 Hc => m = xs.length - i ∧ ∃ ρ1 f z, SL X.K Hc σ1 ρ1 f z ∧ Disj f (zI ++ z) ∧ hold Hc ∧ Ext false H fp fz Hc f (zI ++ z) ∧ Kp kp σ σ1 ∧ forL bodyF (xs.drop i) ρ1 = .ok fl ρ'
  refine ⟨W, ⟨xs.length, by simp, ρ1, f2, z2, s1, d1, hh, x1, .refl _ _, e2⟩, fun i m σ1 Hc ⟨hm, ρ2, f, z, s2, d2, hh2, x2, k2, e3⟩ => ?_⟩
  by_cases hi : i < xs.length
  · refine .inr ?_
    have hx : xs[i]? = some xs[i] := List.getElem?_eq_getElem hi
    obtain ⟨hgo, hyld⟩ := itk.go i Hc xs[i] hh2 hx
    refine ⟨hgo, W (i + 1) (xs.length - (i + 1)), fun σ' H' w => ⟨_, by omega, w⟩, fun x H' hy => ?_⟩
    obtain ⟨st0, zx, rx, hzx⟩ := hyld x H' hy
    rw [List.drop_eq_getElem_cons hi] at e3
    simp only [forL] at e3
    obtain ⟨f3, ρ3, e4, e5⟩ := bind_inv e3
    have tz := itk.trk _ hh2
    have s2' := SL.stay st0 s2 (by simp) (by simp)
    have tf := s2.trk
    have d2' : Disj f (zI ++ (zx ++ z)) := ⟨d2.1, fun a m m' => by
      rcases List.mem_append.mp m' with m' | m'
      · exact d2.2 a m (List.mem_append_left _ m')
      · rcases List.mem_append.mp m' with m' | m'
        · rcases hzx a m' with h | h
          · exact d2.2 a m (List.mem_append_left _ h)
          · exact tf.1 a m h
        · exact d2.2 a m (List.mem_append_right _ m')⟩
    have x2' : Ext false H fp fz H' f (zI ++ (zx ++ z)) := ⟨fun a o h n => st0 a o (x2.stay a o h n) (by simp), x2.fpx, fun a m => by
      rcases List.mem_append.mp m with m | m
      · exact x2.fzx a (List.mem_append_left _ m)
      · rcases List.mem_append.mp m with m | m
        · rcases hzx a m with h | h
          · exact x2.fzx a (List.mem_append_left _ h)
          · exact (x2.some h).elim (fun h => .inr (.inr h)) .inl
        · exact x2.fzx a (List.mem_append_right _ m)⟩
    have hh0 := itk.keep [] _ _ st0 (by simp) hh2
    have e4 : (match setT t xs[i] ρ2 with | some ρ2 => exec cf b ρ2 | none => .stk) = .ok f3 ρ3 := e4
    split at e4
    case h_2 => cases e4
    rename_i ρ4 hset
    refine hT x σ1 H' _ _ ρ2 ρ4 f z zx s2' rx hset (fun σ2 f' z' s3 l3 hw => ?_)
    have l4 : Less ([] ++ f) (zI ++ (zx ++ z)) ([] ++ f') (zI ++ z') := (Less.refl [] zI).app l3
    have d3 : Disj ([] ++ f') (zI ++ z') := l4.disj d2'
    have x3 : Ext false H fp fz H' ([] ++ f') (zI ++ z') := Ext.less x2' l4
    have k3 := k2.trans (kp_wipe hw hk)
    have tz' := itk.trk _ hh0
    refine ⟨ρ4, f', z', f3, ρ3, s3, d3.right, e4, ?_⟩
    have fin : ∀ σ' H'' f z, SL X.K H'' σ' ρ3 f z → Disj f z → Ext false H' f' z' H'' f z → Kp kp σ2 σ' → forL bodyF (xs.drop (i + 1)) ρ3 = .ok fl ρ' → W (i + 1) (xs.length - (i + 1)) σ' H'' := by
      intro σ' H'' f z s d x k hf
      have dd := Ext.disj d3 (Trk.nil _) tz' x d
      have xx := Ext.trans x3 x
      exact ⟨rfl, ρ3, f, z, s, dd, itk.keep _ _ _ x.stay d3.off2 hh0, xx, k3.trans k, hf⟩
    cases f3 with
    | nx => exact fun σ' H'' f z s d x k => fin σ' H'' f z s d x k e5
    | ct => exact fun σ' H'' f z s d x k => fin σ' H'' f z s d x k e5
    | bk =>
      cases e5
      exact fun σ' H'' f z s d x k => p σ' H'' f z s d ((Ext.trans x3 x).to (fun a m => m) fun a m => .inr (List.mem_append_right _ m)) (k3.trans k)
    | rt w =>
      cases e5
      exact fun v σ' H'' f1 z1 f z r s d x k => p v σ' H'' f1 z1 f z r s d ((Ext.trans x3 x).to (fun a m => m) fun a m => .inr (List.mem_append_right _ m)) (k3.trans k)
  · refine .inl ⟨itk.stop i Hc hh2 (by omega), ?_⟩
    rw [List.drop_eq_nil_of_le (by omega)] at e3
    cases e3
    exact p σ1 Hc f z s2 ⟨d2.1, fun a m m' => d2.2 a m (List.mem_append_right _ m')⟩ (x2.to (fun a m => m) fun a m => .inr (List.mem_append_right _ m)) k2
end
end Pi
/-! Pi20: assignments. -/
namespace Pi
open PySem L2
section
variable {X : Cx} {tb : Tb} {cf : Cf} {c : CkC} {kp : List Nat}
theorem q_read {K : PySem.W.Frag} {e : Ex} (hq : quiet e = true) (σ : St) (H : Hp) (Q : VK) (h : tI K cf (.q e) σ H Q) : tI K cf e σ H Q := by
  obtain ⟨ρ, fp, fz, d, ρ', s, dj, h, p⟩ := h
  simp only [ev] at h
  obtain ⟨x, ρ1, e1, e2⟩ := bind_inv h
  cases e2
  have hq2 : quiet (.q e) = true := hq
  refine ⟨ρ, fp, fz, d, ρ1, s, dj, e1, fun v H' f1 z1 f z r s' d' x' n' => ?_⟩
  by_cases hn : nofz d.2 d.1 = true
  · rw [if_pos hn] at p
    rw [hq] at x'
    have hz : z1 = [] := Rep.nofz _ _ _ _ _ hn r
    subst hz
    have ts := s.trk
    have nw := n' hq
    refine p v H' f1 [] fp fz r (SL.stay x'.stay s (by simp) (by simp)) ⟨List.nodup_append.mpr ⟨d'.left.1, dj.1, fun a m b m' e => ?_⟩, fun a m m' => ?_⟩ ?_ (fun _ => nw)
    · subst e; exact ts.1 a m' (nw a m)
    · rcases List.mem_append.mp m with m | m
      · exact ts.2 a m' (nw a m)
      · exact dj.2 a m m'
    · rw [hq2]
      exact ⟨x'.stay, fun a m => (List.mem_append.mp m).elim (fun m => .inr (nw a m)) .inl, fun a m => .inr (.inl m)⟩
  · rw [if_neg hn] at p
    exact p v H' f1 z1 f z r s' d' x' n'
theorem asg_gen {i : Nat} {e : Ex} {st : Stmt} {te : TE} (hs : PS X st (tAsg te (gName i))) (hr : ∀ σ H Q, tI X.K cf e σ H Q → te σ H Q) (hk : i ∉ kp) : PS X st (tSI X.K cf kp (.asg (.nm i) e)) := by
  refine ps_imp hs fun D σ H _ ⟨ρ, fp, fz, fl, ρ', s, dj, e, p⟩ => ?_
  simp only [exec] at e
  obtain ⟨x, ρ1, e1, e2⟩ := bind_inv e
  cases e2
  refine hr σ H _ (ex_step s dj e1 fun v H' f1 z1 f z r s' d' x' => ?_)
  obtain ⟨F, Z, s2, l⟩ := SL.set2 (i := i) s' r
  exact p _ H' F Z s2 (l.disj d') (x'.less l) fun j m => by rw [List.getElem?_set_ne (fun h => hk (by rw [h]; exact m))]
theorem asg_tp {l : List Nat} {e : Ex} {xt x : Expr} {pos : Pos} (ok : XOk X tb cf c) (ie : PE X x (tI X.K cf e)) (ht : ckTg c (.tp l) xt = true) (hk : ∀ i ∈ l, i ∉ kp) (hs : swapsWithSole [xt] x pos.line X.env = pure false) (hw : swappedStores [xt] x X.env = pure none) (h1 : (assignEach [xt] X.env).map (·.2) = [assign xt X.env]) :
    PS X (.Assign [xt] x pos) (tSI X.K cf kp (.asg (.tp l) e)) := by
  obtain ⟨hg, hT⟩ := tg_ok ok ht
  refine ps_imp (ps_asg ie hg hs hw h1) fun D σ H _ ⟨ρ, fp, fz, fl, ρ', s, dj, e, p⟩ => ?_
  simp only [exec] at e
  obtain ⟨x, ρ1, e1, e2⟩ := bind_inv e
  obtain ⟨ρ2, ρ3, e3, e4⟩ := bind_inv e2
  obtain ⟨e5, _⟩ := of_inv e3
  cases e4
  refine ex_step s dj e1 fun v H' f1 z1 f z r s' d' x' => ?_
  obtain ⟨z0, r0, l0⟩ := r.frz
  refine hT v σ H' _ _ ρ1 _ f z z0 s' r0 e5 fun σ2 f' z' s2 l2 hw => ?_
  have L : Less (f1 ++ f) (z1 ++ z) f' z' := (l0.app (Less.refl f z)).trans (by simpa using l2)
  exact p σ2 H' f' z' s2 (L.disj d') (x'.less L) (kp_wipe hw hk)
theorem asg_tn {l : List Tg1} {e : Ex} {xt x : Expr} {pos : Pos} (ok : XOk X tb cf c) (ie : PE X x (tI X.K cf e)) (ht : ckTg c (.tn l) xt = true) (hk : ∀ i ∈ l.flatMap tg1Slots, i ∉ kp) (hs : swapsWithSole [xt] x pos.line X.env = pure false) (hw : swappedStores [xt] x X.env = pure none) (h1 : (assignEach [xt] X.env).map (·.2) = [assign xt X.env]) :
    PS X (.Assign [xt] x pos) (tSI X.K cf kp (.asg (.tn l) e)) := by
  obtain ⟨hg, hT⟩ := tg_ok ok ht
  refine ps_imp (ps_asg ie hg hs hw h1) fun D σ H _ ⟨ρ, fp, fz, fl, ρ', s, dj, e, p⟩ => ?_
  simp only [exec] at e
  obtain ⟨x, ρ1, e1, e2⟩ := bind_inv e
  obtain ⟨ρ2, ρ3, e3, e4⟩ := bind_inv e2
  obtain ⟨e5, _⟩ := of_inv e3
  cases e4
  refine ex_step s dj e1 fun v H' f1 z1 f z r s' d' x' => ?_
  obtain ⟨z0, r0, l0⟩ := r.frz
  refine hT v σ H' _ _ ρ1 _ f z z0 s' r0 e5 fun σ2 f' z' s2 l2 hw => ?_
  have L : Less (f1 ++ f) (z1 ++ z) f' z' := (l0.app (Less.refl f z)).trans (by simpa using l2)
  exact p σ2 H' f' z' s2 (L.disj d') (x'.less L) (kp_wipe hw hk)
theorem lc_set (ok : XOk X tb cf c) {i : Nat} {y : Str} {py : Pos} {elt : Expr} {gs : List Comprehension} {scope : Scope} {pos spos : Pos} (hy : c.N[i]? = some y) (hyl : c.sc.names.lookup y = some .local)
    (hsw : swapsWith (.ListComp elt gs scope pos) (some (.Name y py)) spos.line X.env = pure true) : ∀ (e : Ex), ck tb c e (.ListComp elt gs scope pos) = true →
    ∃ te, PS X (.Assign [.Name y py] (.ListComp elt gs scope pos) spos) (tAsg te (gName i)) ∧ ∀ σ H Q, tI X.K cf e σ H Q → te σ H Q := by
  intro e
  induction e with
  | q e ih =>
    intro h
    have h : (ck tb c e (.ListComp elt gs scope pos) && quiet e) = true := h
    rw [Bool.and_eq_true] at h
    obtain ⟨te, a, b⟩ := ih h.1
    exact ⟨te, a, fun σ H Q q => b σ H Q (q_read h.2 σ H Q q)⟩
  | lc k own elt' tg it cnd ihe ihi ihc =>
    intro h
    rcases gs with _ | ⟨⟨xt, xi, ifs, isa⟩, _ | ⟨g2, gs⟩⟩
    · exact nof h
    · rcases isa with (_ | a) | a <;> first | exact nof h | skip
      have h : (ckI tb c it xt xi && blkC c.N c.sc scope (own.map fun i => ((c.N[i]?).getD Str.empty, i)) && (tgSlots tg).all own.contains && ckTg (blkK c scope) tg xt && ck tb (blkK c scope) elt' elt &&
        cndOk tb (blkK c scope) cnd ifs) = true := h
      simp only [Bool.and_eq_true] at h
      obtain ⟨⟨⟨⟨⟨h1, h2⟩, h3⟩, h4⟩, h5⟩, h6⟩ := h
      have hb : BlkOk X.N X.env.scope scope (own.map fun i => ((c.N[i]?).getD Str.empty, i)) := by
        rw [ok.hN, ok.hsc]; exact blkOk_by h2
      have hpt : ∀ X', XOk X' tb cf (blkK c scope) → PTs X' ifs (tIT X'.K cf cnd) := by
        intro X' ok'
        unfold cndOk at h6
        split at h6
        · split at h6
          · exact pts_yes
          · cases h6
        · exact pts_one ((ok_all cnd).pt X' _ _ ok' h6)
        · cases h6
      have h0 := ps_setLc (X := X) (i := i) (y := y) (py := py) (pos := pos) (spos := spos) (g := tgG X.K tg) (tt := tIT X.K cf cnd) (te := tI X.K cf elt') ok.calm ok.nd (by rw [ok.hN]; exact hy) (by rw [ok.hsc]; exact hyl) hsw ((ok_all it).pi X c xt xi ok h1) hb
        (fun s H C cl fp => (tg_ok (xok_blk ok) h4).1) (fun s H C cl fp => hpt _ (xok_blk ok)) (fun s H C cl fp => (ok_all elt').pe _ _ _ (xok_blk ok) h5) (fun v => set_no (fun a k p e => by
          subst e
          cases it <;> first | exact nof h1 | (simp only [ckI, Bool.and_false, Bool.false_eq_true] at h1)) v)
      rw [own_map] at h0
      exact ⟨_, h0, fun σ H Q q => lc_read σ H Q (fun i m => by simpa using List.all_eq_true.mp h3 i m) (tg_ok (xok_blk (s := X.s_0) (H := H) (scope := scope) (C := 0) (cl := []) (fp := []) ok) h4).2 q⟩
    · cases isa <;> (simp [ck] at h)
  | mth m o l _ _ => intro h; cases m <;> exact nof h
  | _ => intro h; exact nof h
/-! ### a, b = x, y -/
def starB : Expr → Bool
  | .Starred .. => true
  | _ => false
theorem starB_no {a : Expr} (h : ∀ e p, a ≠ .Starred e p) : starB a = false := by
  cases a <;> first | rfl | exact absurd rfl (h _ _)
theorem sw2 {env : PySem.Env} {x y : Str} {px py pt pt2 : Pos} {kt k2 : Nat} {a b : Expr} (hk : env.scope.kind = .function) (hx : env.scope.names.lookup x = some .local) (hy : env.scope.names.lookup y = some .local) (hl : py.line = px.line) (hxy : x ≠ y)
    (ha : ∀ e p, a ≠ .Starred e p) (hb : ∀ e p, b ≠ .Starred e p) (h1 : ([a, b].all (foldedForSure 8)) = false) (h2 : ([a, b].all (constantsAlone 8)) = false) :
    swappedStores [.Tuple [.Name x px, .Name y py] kt pt] (.Tuple [a, b] k2 pt2) env = pure (some [x, y]) := by
  have hb1 : env.blockKind = .function := by
    unfold Env.blockKind
    rw [hk]; rfl
  have hs : ([a, b].any starB) = false := by
    show (_ || (_ || false)) = false
    rw [starB_no ha, starB_no hb]; rfl
  have hd : ([x, y] : List Str).eraseDups.length = 2 := by
    have : (y == x) = false := by simpa using fun h => hxy h.symm
    simp [List.eraseDups_cons, this]
  have k1 : env.kindOf x = some .local := hx
  have k2' : env.kindOf y = some .local := hy
  unfold swappedStores
  simp only [List.length_cons, List.length_nil, hb1, h1, h2, List.head?_cons, Option.map_some, Option.getD_some, Expr.pos, List.filterMap_cons, List.filterMap_nil, k1, k2', hl, beq_self_eq_true, Bool.and_self, if_true, hd, bne_self_eq_false, Bool.false_eq_true, if_false]
  rw [if_neg (by decide), if_neg (by rw [Bool.not_eq_true]; exact hs), if_neg (by decide)]
/-- a tuple of constants: no stores are swapped -/
theorem ss_fold {ts vs : List Expr} {k k2 : Nat} {p p2 : Pos} {env : PySem.Env} (h : vs.all (foldedForSure 8) = true) : swappedStores [.Tuple ts k p] (.Tuple vs k2 p2) env = pure none := by
  unfold swappedStores
  simp only [h, if_true]
  split
  · rfl
  · split
    · rfl
    · split
      · rfl
      · rfl
/-- four targets or more, or one that is no name: no stores are swapped -/
theorem ss_many {ts : List Expr} {x : Expr} {k : Nat} {p : Pos} {env : PySem.Env} (h : 4 ≤ ts.length) : swappedStores [.Tuple ts k p] x env = pure none := by
  unfold swappedStores
  split
  · rename_i ts' vs e1 
    split
    · rfl
    · rename_i hc
      exfalso
      cases x <;> first | (simp at e1; done) | skip
      simp only [Option.some.injEq, Prod.mk.injEq] at e1
      obtain ⟨rfl, rfl⟩ := e1
      have h2 : (ts.length == 2) = false := by simp; omega
      have h3 : (ts.length == 3) = false := by simp; omega
      simp [h2, h3] at hc
  · rfl
def isNm : Expr → Bool
  | .Name _ _ => true
  | _ => false
theorem filt_nm (f : Expr → Option Str) (hf : ∀ e, isNm e = false → f e = none) : ∀ (ts : List Expr), ts.all isNm = false → (ts.filterMap f).length < ts.length
  | [], h => by simp at h
  | e :: ts, h => by
    rw [List.filterMap_cons]
    have hl : (ts.filterMap f).length ≤ ts.length := List.length_filterMap_le f ts
    cases he : isNm e with
    | false => rw [hf e he]; simp only [List.length_cons]; omega
    | true =>
      rw [List.all_cons, he, Bool.true_and] at h
      have := filt_nm f hf ts h
      split <;> simp only [List.length_cons] <;> omega
theorem ss_nonm {ts : List Expr} {x : Expr} {k : Nat} {p : Pos} {env : PySem.Env} (h : ts.all isNm = false) : swappedStores [.Tuple ts k p] x env = pure none := by
  unfold swappedStores
  split
  · rename_i ts' vs e1
    cases x <;> first | (simp at e1; done) | skip
    simp only [Option.some.injEq, Prod.mk.injEq] at e1
    obtain ⟨rfl, rfl⟩ := e1
    split
    · rfl
    · split
      · rfl
      · have key : ∀ (ln : Nat), ((List.filterMap (fun x => match x with
            | Expr.Name id pos => if (env.kindOf id == some NameKind.local && pos.line == ln) = true then some id else none
            | _ => none) ts).length != ts.length) = true := fun ln => by
          have := filt_nm (fun x => match x with
            | Expr.Name id pos => if (env.kindOf id == some NameKind.local && pos.line == ln) = true then some id else none
            | _ => none) (fun e he => by cases e <;> first | rfl | cases he) ts h
          simpa using Nat.ne_of_lt this
        split
        · simp only [ite_self]
        · exact if_pos ((Bool.or_eq_true _ _).mpr (.inl (key _)))
  · rfl
theorem sw3 {env : PySem.Env} {x y z : Str} {px py pz pt pt2 : Pos} {kt k2 : Nat} {a b d : Expr} (hk : env.scope.kind = .function) (hx : env.scope.names.lookup x = some .local) (hy : env.scope.names.lookup y = some .local) (hz : env.scope.names.lookup z = some .local) (hl : py.line = px.line) (hl2 : pz.line = px.line) (hxy : x ≠ y) (hxz : x ≠ z) (hyz : y ≠ z)
    (ha : ∀ e p, a ≠ .Starred e p) (hb : ∀ e p, b ≠ .Starred e p) (hd' : ∀ e p, d ≠ .Starred e p) (h1 : ([a, b, d].all (foldedForSure 8)) = false) (h2 : ([a, b, d].all (constantsAlone 8)) = false) :
    swappedStores [.Tuple [.Name x px, .Name y py, .Name z pz] kt pt] (.Tuple [a, b, d] k2 pt2) env = pure (some [x, y, z]) := by
  have hb1 : env.blockKind = .function := by
    unfold Env.blockKind
    rw [hk]; rfl
  have hs : ([a, b, d].any starB) = false := by
    show (_ || (_ || (_ || false))) = false
    rw [starB_no ha, starB_no hb, starB_no hd']; rfl
  have hd : ([x, y, z] : List Str).eraseDups.length = 3 := by
    have q1 : (y == x) = false := by simpa using fun h => hxy h.symm
    have q2 : (z == x) = false := by simpa using fun h => hxz h.symm
    have q3 : (z == y) = false := by simpa using fun h => hyz h.symm
    simp [List.eraseDups_cons, q1, q2, q3]
  have k1 : env.kindOf x = some .local := hx
  have k2' : env.kindOf y = some .local := hy
  have k3 : env.kindOf z = some .local := hz
  unfold swappedStores
  simp only [List.length_cons, List.length_nil, hb1, h1, h2, List.head?_cons, Option.map_some, Option.getD_some, Expr.pos, List.filterMap_cons, List.filterMap_nil, k1, k2', k3, hl, hl2, beq_self_eq_true, Bool.and_self, if_true, hd, bne_self_eq_false, Bool.false_eq_true, if_false]
  rw [if_neg (by decide), if_neg (by rw [Bool.not_eq_true]; exact hs), if_neg (by decide)]
theorem par_step {e : Ex} {σ : St} {H : Hp} {fp fz : List Addr} {ρ ρ1 : Env} {as : List Ar} {xs : List Sl} {R : List V → Hp → Prop} (s : SL X.K H σ ρ fp fz) (dj : Disj fp fz) (he : evA cf e ρ = .ok as ρ1) (hv : valsA as = some xs)
    (k : ∀ vs H' f1 z1 f z, SL X.K H' (vs.map some) (xs.map some) f1 z1 → SL X.K H' σ ρ1 f z → Disj (f1 ++ f) (z1 ++ z) → Ext false H fp fz H' (f1 ++ f) (z1 ++ z) → R vs H') : tIA X.K cf e σ H R :=
  ⟨ρ, fp, fz, as, ρ1, s, dj, he, fun vs H' f1 z1 f z al s' d' x' _ => k vs H' f1 z1 f z (vals_al hv al) s' d' (x'.weak fun h => by cases h)⟩
theorem par2_ps {i j : Nat} {x y : Str} {e : Ex} {a b : Expr} {px py pt pt2 pos : Pos} {kt k2 : Nat} (ok : XOk X tb cf c) (hi : c.N[i]? = some x) (hj : c.N[j]? = some y) (hij : i ≠ j) (hx : c.sc.names.lookup x = some .local) (hy : c.sc.names.lookup y = some .local)
    (il : PA X [a, b] (tIA X.K cf e)) (hki : i ∉ kp) (hkj : j ∉ kp) (hw : swappedStores [.Tuple [.Name x px, .Name y py] kt pt] (.Tuple [a, b] k2 pt2) X.env = pure (some [x, y])) : PS X (.Assign [.Tuple [.Name x px, .Name y py] kt pt] (.Tuple [a, b] k2 pt2) pos) (tSI X.K cf kp (.par [i, j] e)) := by
  refine ps_imp (ps_par ok.calm ok.nd (by rw [ok.hN]; exact hi) (by rw [ok.hN]; exact hj) hij (by rw [ok.hsc]; exact hx) (by rw [ok.hsc]; exact hy) il hw) fun D σ H _ ⟨ρ, fp, fz, fl, ρ', s, dj, e, p⟩ => ?_
  simp only [exec] at e
  obtain ⟨xs, ρ1, e1, e2⟩ := bind_inv e
  obtain ⟨as, ρ0, e3, e4⟩ := bind_inv e1
  obtain ⟨hv, h0⟩ := of_inv e4
  subst h0
  obtain ⟨ρ2, ρ3, e5, e6⟩ := bind_inv e2
  obtain ⟨e7, _⟩ := of_inv e5
  cases e6
  clear e e1 e2 e4 e5
  refine par_step s dj e3 hv fun vs H' f1 z1 f z sv s' d' x' => ?_
  rcases xs with _ | ⟨u, _ | ⟨w, _ | ⟨t, xs⟩⟩⟩ <;> simp only [setAll, Option.some.injEq, reduceCtorEq] at e7
  obtain ⟨v1, v2, g1, g2, y1, y2, rfl, rfl, rfl, r1, r2⟩ := sl_two sv
  obtain ⟨F1, Z1, s1, l1⟩ := SL.set2 (i := i) s' r1
  obtain ⟨F2, Z2, s2, l2⟩ := SL.set2 (i := j) s1 r2
  subst e7
  have L : Less ((g1 ++ g2) ++ f) ((y1 ++ y2) ++ z) F2 Z2 := by
    refine Less.trans (Less.perm ?_ ?_) (((Less.refl g2 y2).app l1).trans l2)
    · exact perm_cnt fun a => by simp only [List.count_append]; omega
    · exact perm_cnt fun a => by simp only [List.count_append]; omega
  exact ⟨v1, v2, rfl, p _ H' F2 Z2 s2 (L.disj d') (x'.less L) fun n m => by rw [List.getElem?_set_ne (fun h => hkj (by rw [h]; exact m)), List.getElem?_set_ne (fun h => hki (by rw [h]; exact m))]⟩
theorem sl_three {K : PySem.W.Frag} {H : Hp} {vs : List V} {x y t : Sl} {f z : List Addr} (s : SL K H (vs.map some) ([x, y, t].map some) f z) : ∃ v w u f1 f2 f3 z1 z2 z3, vs = [v, w, u] ∧ f = f1 ++ (f2 ++ f3) ∧ z = z1 ++ (z2 ++ z3) ∧ Rep K H x.1 x.2 v f1 z1 ∧ Rep K H y.1 y.2 w f2 z2 ∧ Rep K H t.1 t.2 u f3 z3 := by
  obtain ⟨v, vs', f1, f2, z1, z2, rfl, rfl, rfl, r, s⟩ := sl_cons s
  obtain ⟨w, u, f3, f4, z3, z4, rfl, rfl, rfl, r2, r3⟩ := sl_two s
  exact ⟨v, w, u, f1, f3, f4, z1, z3, z4, rfl, rfl, rfl, r, r2, r3⟩
theorem par3_ps {i j l : Nat} {x y w : Str} {e : Ex} {a b d : Expr} {px py pw pt pt2 pos : Pos} {kt k2 : Nat} (ok : XOk X tb cf c) (hi : c.N[i]? = some x) (hj : c.N[j]? = some y) (hl : c.N[l]? = some w) (hij : i ≠ j) (hil : i ≠ l) (hjl : j ≠ l) (hx : c.sc.names.lookup x = some .local) (hy : c.sc.names.lookup y = some .local) (hw' : c.sc.names.lookup w = some .local)
    (il : PA X [a, b, d] (tIA X.K cf e)) (hki : i ∉ kp) (hkj : j ∉ kp) (hkl : l ∉ kp) (hw : swappedStores [.Tuple [.Name x px, .Name y py, .Name w pw] kt pt] (.Tuple [a, b, d] k2 pt2) X.env = pure (some [x, y, w])) : PS X (.Assign [.Tuple [.Name x px, .Name y py, .Name w pw] kt pt] (.Tuple [a, b, d] k2 pt2) pos) (tSI X.K cf kp (.par [i, j, l] e)) := by
  refine ps_imp (ps_par3 ok.calm ok.nd (by rw [ok.hN]; exact hi) (by rw [ok.hN]; exact hj) (by rw [ok.hN]; exact hl) hij hil hjl (by rw [ok.hsc]; exact hx) (by rw [ok.hsc]; exact hy) (by rw [ok.hsc]; exact hw') il hw) fun D σ H _ ⟨ρ, fp, fz, fl, ρ', s, dj, e, p⟩ => ?_
  simp only [exec] at e
  obtain ⟨xs, ρ1, e1, e2⟩ := bind_inv e
  obtain ⟨as, ρ0, e3, e4⟩ := bind_inv e1
  obtain ⟨hv, h0⟩ := of_inv e4
  subst h0
  obtain ⟨ρ2, ρ3, e5, e6⟩ := bind_inv e2
  obtain ⟨e7, _⟩ := of_inv e5
  cases e6
  clear e e1 e2 e4 e5
  refine par_step s dj e3 hv fun vs H' f1 z1 f z sv s' d' x' => ?_
  rcases xs with _ | ⟨u, _ | ⟨w, _ | ⟨t, _ | ⟨t2, xs⟩⟩⟩⟩ <;> simp only [setAll, Option.some.injEq, reduceCtorEq] at e7
  obtain ⟨v1, v2, v3, g1, g2, g3, y1, y2, y3, rfl, rfl, rfl, r1, r2, r3⟩ := sl_three sv
  obtain ⟨F1, Z1, s1, l1⟩ := SL.set2 (i := i) s' r1
  obtain ⟨F2, Z2, s2, l2⟩ := SL.set2 (i := j) s1 r2
  obtain ⟨F3, Z3, s3, l3⟩ := SL.set2 (i := l) s2 r3
  subst e7
  have L : Less ((g1 ++ (g2 ++ g3)) ++ f) ((y1 ++ (y2 ++ y3)) ++ z) F3 Z3 := by
    refine Less.trans (Less.perm ?_ ?_) (((Less.refl g3 y3).app (((Less.refl g2 y2).app l1).trans l2)).trans l3)
    · exact perm_cnt fun a => by simp only [List.count_append]; omega
    · exact perm_cnt fun a => by simp only [List.count_append]; omega
  exact ⟨v1, v2, v3, rfl, p _ H' F3 Z3 s3 (L.disj d') (x'.less L) fun n m => by rw [List.getElem?_set_ne (fun h => hkl (by rw [h]; exact m)), List.getElem?_set_ne (fun h => hkj (by rw [h]; exact m)), List.getElem?_set_ne (fun h => hki (by rw [h]; exact m))]⟩
end
end Pi
/-! Pi21: x op= y, o[i] = v; every statement. -/
namespace Pi
open PySem L2
section
variable {X : Cx} {tb : Tb} {cf : Cf} {c : CkC} {kp : List Nat}
theorem rep_flat {K : PySem.W.Frag} {H : Hp} {d : D} {n : Nat} {v : V} {f z : List Addr} (r : Rep K H d n v f z) (h : flatD d = true) (H' : Hp) : f = [] ∧ z = [] ∧ Rep K H' d 0 v [] [] := by
  cases d <;> first | exact nof h | (simp only [Rep] at r ⊢; simp [r])
def rAug (K : PySem.W.Frag) (o : Operator) : TIp := fun x y H Q => ∃ d1 d2 z d, Rep K H d1 0 x [] [] ∧ Rep K H d2 0 y [] z ∧ augD o d1 d2 = some d ∧ ∀ v, Rep K H d 0 v [] [] → Q v H
theorem aug_ok (o : Operator) : PIp X o (rAug X.K o) := by
  intro pins s σ H x y v u Q I rx ry ⟨d1, d2, z, d, r1, r2, e, q⟩
  unfold augD at e
  split at e
  · cases e; cases r1.toInt; cases r2.toInt
    exact iop_add pins s σ H _ _ v u Q I rx ry ⟨_, _, rfl, rfl, q _ (by simp [Rep])⟩
  · split at e
    · rename_i hl
      cases e; cases r1.toStr; cases r2.toStr
      exact iop_add_str pins s σ H _ _ v u Q I rx ry ⟨_, _, rfl, rfl, hl, q _ (by simp [Rep])⟩
    · cases e
  · cases e; cases r1.toInt; cases r2.toInt
    exact iop_sub pins s σ H _ _ v u Q I rx ry ⟨_, _, rfl, rfl, q _ (by simp [Rep])⟩
  · split at e
    · rename_i hl
      cases e; cases r1.toInt; cases r2.toInt
      exact iop_mul pins s σ H _ _ v u Q I rx ry ⟨_, _, rfl, rfl, by simpa [CMul] using hl, q _ (by simp [Rep])⟩
    · cases e
  · split at e
    · rename_i hl
      cases e; cases r1.toInt; cases r2.toInt
      exact iop_fdiv pins s σ H _ _ v u Q I rx ry ⟨_, _, rfl, rfl, hl, q _ (by simp [Rep])⟩
    · cases e
  · split at e
    · rename_i hl
      cases e; cases r1.toInt; cases r2.toInt
      exact iop_mod pins s σ H _ _ v u Q I rx ry ⟨_, _, rfl, rfl, hl, q _ (by simp [Rep])⟩
    · cases e
  · split at e
    · rename_i hl
      cases e; cases r1.toInt; cases r2.toInt
      exact iop_shr pins s σ H _ _ v u Q I rx ry ⟨_, _, rfl, rfl, hl, q _ (by simp [Rep])⟩
    · cases e
  · cases e; cases r1.toInt; cases r2.toInt
    exact iop_and pins s σ H _ _ v u Q I rx ry ⟨_, _, rfl, rfl, q _ (by simp [Rep])⟩
  · cases e; cases r1.toInt; cases r2.toInt
    exact iop_or pins s σ H _ _ v u Q I rx ry ⟨_, _, rfl, rfl, q _ (by simp [Rep])⟩
  · cases e
theorem tgt_loc (ok : XOk X tb cf c) {i : Nat} {x : Str} (h : ckTgt c i x = true) : X.N[i]? = some x ∧ Loc X.env.scope x ∧ (X.fn x = true ∨ X.env.scope.names.lookup x = some .local) := by
  simp only [ckTgt, plainNm, Bool.and_eq_true, beq_iff_eq, Bool.not_eq_true'] at h
  have hl := h.1.2
  unfold locB at hl
  split at hl
  · rename_i e
    exact ⟨by rw [ok.hN]; exact h.1.1, by rw [ok.hsc]; exact .inl e, .inr (by rw [ok.hsc]; exact e)⟩
  · rename_i e
    exact ⟨by rw [ok.hN]; exact h.1.1, by rw [ok.hsc]; exact .inr e, .inl (ok.hfn x hl)⟩
  · cases hl
theorem aug_ps (ok : XOk X tb cf c) {i : Nat} {o : Operator} {e : Ex} {x : Str} {xe : Expr} {p pos : Pos} (ht : ckTgt c i x = true) (hk : i ∉ kp) (ie : PE X xe (tI X.K cf e)) : PS X (.AugAssign (.Name x p) o xe pos) (tSI X.K cf kp (.aug i o e)) := by
  obtain ⟨h1, h2, h3⟩ := tgt_loc ok ht
  refine ps_imp (ps_aug ok.nd h1 h2 ie (aug_ok o) h3) fun D σ H _ ⟨ρ, fp, fz, fl, ρ', s, dj, e, p⟩ => ?_
  simp only [exec] at e
  split at e
  · rename_i dx nx hg
    split at e
    · rename_i hfl
      obtain ⟨y, ρ1, e1, e2⟩ := bind_inv e
      obtain ⟨d, ρ2, e3, e4⟩ := bind_inv e2
      obtain ⟨e5, h0⟩ := of_inv e3
      subst h0
      cases e4
      obtain ⟨v, _, _, _, _, hσ, r0, _⟩ := SL.take s hg
      refine ⟨v, hσ, ex_step s dj e1 fun w H' f1 z1 f z r s' d' x' => ?_⟩
      obtain ⟨_, _, r0'⟩ := rep_flat r0 hfl H'
      obtain ⟨z0, r1, l1⟩ := r.frz
      refine ⟨dx, y.1, z0, d, r0', r1, e5, fun u ru => ?_⟩
      obtain ⟨F, Z, s2, l2⟩ := SL.set2 (i := i) s' ru
      have la : Less ([] ++ f) (z0 ++ z) f z := .by [] (fun a => by simp) fun a m => .inl (List.mem_append_right _ m)
      have L : Less (f1 ++ f) (z1 ++ z) F Z := (l1.app (Less.refl f z)).trans (la.trans (by simpa using l2))
      exact p _ H' F Z s2 (L.disj d') (x'.less L) fun j m => by rw [List.getElem?_set_ne (fun h => hk (by rw [h]; exact m))]
    · cases e
  · cases e
/-! ### o[i] = v -/
def rSet : TSet := fun o i v H Q => rSetL o i v H Q ∨ ∃ a kvs k, o = .ref a ∧ i = kV k ∧ H a = some (.dK kvs) ∧ kvs.length < sizeLine ∧ Q (upd H a (.dK (putD kvs k v)))
theorem set_ok (hu : X.A.units + 1 < cLine) : PSet X rSet := by
  intro pins s σ H o i v ov iv u Q I ro ri rv h
  rcases h with h | ⟨a, kvs, k, rfl, rfl, h, hl, q⟩
  · exact set_list pins s σ H o i v ov iv u Q I ro ri rv h
  · obtain rfl : ov = .ref a := ro
    have hn : (kvs.map (·.1)).Nodup := by
      obtain ⟨_, _, vs, rel, dd⟩ := dk_of I.hok h
      obtain ⟨_, _, _, _, _, _, _, _, hn⟩ := dd
      rw [rel.keys]; exact hn
    refine d_setItem hu I (.inl ⟨kvs, k, h, rfl, hl, rfl⟩) ri rv fun s' I' => ⟨_, I', ?_⟩
    rw [putK_eq k v hn]; exact q
theorem set_core {d d' kk : D} {n : Nat} {v : Sl} {x w kv : V} {f1 z1 fa za f3 z3 : List Addr} {nk : Nat} {H : Hp} {Q : Hp → Prop} (r : Rep X.K H d (n + 1) x f1 z1) (rv : Rep X.K H v.1 v.2 w fa za) (rk : Rep X.K H kk nk kv f3 z3) (dj : Disj (fa ++ f1) (za ++ z1)) (e : setD d (n + 1) kk v = some d')
    (k : ∀ H' f1' z1', Stay f1 H H' → Rep X.K H' d' (n + 1) x f1' z1' → Less (fa ++ f1) (za ++ z1) f1' z1' → Q H') : rSet x kv w H Q := by
  unfold setD at e
  split at e
  · rename_i ys i
    split at e
    · rename_i j hj
      split at e
      · rename_i hc
        cases e
        simp only [Nat.add_sub_cancel] at hc
        obtain ⟨a, ws, g, rfl, hp, rl, rfl⟩ := r.ownL
        cases rk.toInt
        obtain ⟨fa', za', rw1, l1⟩ := Rep.hasd hc rv
        have hl := RepL.len rl
        have hjl : j < ys.length := (ixN_seq hj).2.1
        obtain ⟨f', z', rl2, l2⟩ := RepL.setAt j rl hjl rw1
        have st : Stay (a :: g) H (upd H a (.lst (ws.set j w))) := stay_upd g (by rw [hp]; simp) (by rw [hp]; exact trivial)
        have st' : Stay [a] H (upd H a (.lst (ws.set j w))) := stay_upd [] (by rw [hp]; simp) (by rw [hp]; exact trivial)
        have nd := List.nodup_append.mp dj.1
        have ng := List.nodup_cons.mp nd.2.1
        have L : Less (fa ++ (a :: g)) (za ++ z1) (a :: f') z' := by
          obtain ⟨m1, p1, q1⟩ := l1
          obtain ⟨m2, p2, q2⟩ := l2
          refine .by (m2 ++ m1) (fun b => ?_) fun b m => ?_
          · have := cnt_perm p1 b
            have := cnt_perm p2 b
            simp only [List.count_append, List.count_cons] at *
            omega
          · rcases q2 b m with m | m
            · rcases List.mem_append.mp m with m | m
              · exact (q1 b m).imp (fun m => by simp [m]) fun m => by simp [m]
              · exact .inl (by simp [m])
            · exact .inr (by simp [m])
        have dL := L.disj dj
        have nL := List.nodup_cons.mp dL.1
        have rl3 := RepL.stay st' _ _ _ _ _ rl2 (fun b m h => by rw [List.mem_singleton.mp h] at m; exact nL.1 m) (fun b m h => by rw [List.mem_singleton.mp h] at m; exact dL.2 a (by simp) m)
        exact .inl ⟨a, ws, i, j, rfl, rfl, hp, by rw [hl]; exact hj, k _ _ _ st (Rep.mkL upd_same rl3) L⟩
      · cases e
    · cases e
  · rename_i l k0
    split at e
    · rename_i kk' hk
      split at e
      · rename_i hc
        cases e
        simp only [Bool.and_eq_true, decide_eq_true_eq, Nat.add_sub_cancel] at hc
        obtain ⟨a, ws, g, rfl, hp, rl, rfl⟩ := r.ownK
        obtain ⟨rfl, _, _⟩ := rep_key rk hk
        obtain ⟨fa', za', rw1, l1⟩ := Rep.hasd hc.2 rv
        obtain ⟨f', z', rl2, l2⟩ := RepK.put kk' rl rw1
        have st : Stay (a :: g) H (upd H a (.dK (putD ws kk' w))) := stay_upd g (by rw [hp]; simp) (by rw [hp]; exact trivial)
        have st' : Stay [a] H (upd H a (.dK (putD ws kk' w))) := stay_upd [] (by rw [hp]; simp) (by rw [hp]; exact trivial)
        have L : Less (fa ++ (a :: g)) (za ++ z1) (a :: f') z' := by
          obtain ⟨m1, p1, q1⟩ := l1
          obtain ⟨m2, p2, q2⟩ := l2
          refine .by (m2 ++ m1) (fun b => ?_) fun b m => ?_
          · have := cnt_perm p1 b
            have := cnt_perm p2 b
            simp only [List.count_append, List.count_cons] at *
            omega
          · rcases q2 b m with m | m
            · rcases List.mem_append.mp m with m | m
              · exact (q1 b m).imp (fun m => by simp [m]) fun m => by simp [m]
              · exact .inl (by simp [m])
            · exact .inr (by simp [m])
        have dL := L.disj dj
        have nL := List.nodup_cons.mp dL.1
        have rl3 := RepK.stay st' _ _ _ _ _ rl2 (fun b m h => by rw [List.mem_singleton.mp h] at m; exact nL.1 m) (fun b m h => by rw [List.mem_singleton.mp h] at m; exact dL.2 a (by simp) m)
        exact .inr ⟨a, ws, kk', rfl, rfl, hp, by rw [RepK.len rl]; exact hc.1, k _ _ _ st (Rep.mkK upd_same rl3) L⟩
      · cases e
    · cases e
  · cases e
theorem setix_ps (ok : XOk X tb cf c) {i : Nat} {k e : Ex} {x : Str} {xk xv : Expr} {p ps pos : Pos} (hx : ckVar c i x = true) (ik : PE X xk (tI X.K cf k)) (hns : notSl xk = true) (ie : PE X xv (tI X.K cf e)) : PS X (.Assign [.Subscript (.Name x p) xk ps] xv pos) (tSI X.K cf kp (.setix i k e)) := by
  have hsw : swapsWithSole [.Subscript (.Name x p) xk ps] xv pos.line X.env = pure false := by cases xv <;> rfl
  have hss : swappedStores [.Subscript (.Name x p) xk ps] xv X.env = pure none := by cases xv <;> rfl
  refine ps_imp (ps_asg ie (pg_sub (ckVar_ok ok hx) ik (set_ok (X := X) (by have := ok.hu; omega)) (by intro v; cases xk <;> first | rfl | exact nof hns)) hsw hss rfl) fun D σ H _ ⟨ρ, fp, fz, fl, ρ', s, dj, e, q⟩ => ?_
  simp only [exec] at e
  obtain ⟨v, ρ1, e1, e2⟩ := bind_inv e
  split at e2
  · cases e2
  rename_i hsome
  obtain ⟨kk, ρ2, e3, e4⟩ := bind_inv e2
  split at e4
  · rename_i d n hg
    split at e4
    · rename_i d' hset
      cases e4
      refine ex_step s dj e1 fun w H1 f1 z1 f2 z2 rv s1 d1 x1 => ?_
      have hs1 : ∃ d0 n0, gt ρ1 i = some (d0, n0) := by
        cases h : gt ρ1 i with
        | none => rw [h] at hsome; exact absurd rfl hsome
        | some s => exact ⟨s.1, s.2, rfl⟩
      obtain ⟨d0, n0, hg0⟩ := hs1
      obtain ⟨o, _, _, _, _, hσ, _⟩ := SL.take s1 hg0
      refine ⟨o, hσ, ex_step s1 d1.right e3 fun kv H2 f3 z3 f4 z4 rk s2 d2 x2 => ?_⟩
      have t1 := rv.trk
      have d3 := Ext.disj d1 t1.1 t1.2 x2 d2
      have x3 := Ext.trans x1 x2
      have rv' := Rep.stay x2.stay _ _ _ _ _ rv d1.off1 d1.off2
      rw [← List.append_assoc, ← List.append_assoc] at d3 x3
      obtain ⟨o', g1, g2, y1, y2, hσ', r1, sr, p1, p2⟩ := SL.take s2 hg
      rw [hσ] at hσ'
      cases hσ'
      have d4 := mut_dj p1 p2 d3
      have d5 : Disj (f1 ++ g1) (z1 ++ y1) := Less.disj (.by f3 (fun a => by simp only [List.count_append]; omega) fun a m => .inl ((List.mem_append.mp m).elim (fun m => by simp [m]) fun m => by simp [m])) d4
      refine set_core r1 rv' rk d5 hset fun H3 f' z' hst rd l => ?_
      have l0 : Less ((f1 ++ f3) ++ g1) ((z1 ++ z3) ++ y1) (f1 ++ g1) (z1 ++ y1) := .by f3 (fun a => by simp only [List.count_append]; omega) fun a m => .inl ((List.mem_append.mp m).elim (fun m => by simp [m]) fun m => by simp [m])
      have l2 : Less ((f1 ++ f3) ++ g1) ((z1 ++ z3) ++ y1) ([] ++ f') ([] ++ z') := l0.trans (by simpa using l)
      obtain ⟨F, Z, sF, dF, xF⟩ := mut_sl sr hσ p1 p2 d3 x3 hst rd l2
      exact q σ H3 F Z sF dF xF (.refl _ _)
    · cases e4
  · cases e4
/-! ### o[i] op= v, a list of ints -/
theorem pget_list : PGet X (fun o i H Q => ∃ p xs j v, o = .ref p ∧ i = .int j ∧ 0 ≤ j ∧ SqL X.K H p xs ∧ atI xs j = some v ∧ Q v H) := by
  intro pins s σ H o i ov iv Q I ro ri ⟨p, xs, j, w, eo, ei, h0, hq, ha, q⟩
  subst eo ei
  cases ro
  obtain ⟨t, rfl⟩ := ri
  obtain ⟨its, r, pl, hz⟩ := I.list hq
  obtain ⟨k, h1, h2, h3, h4, h5⟩ := atI_get ha
  obtain ⟨u, eu, ru⟩ := r.get h2
  have hl := r.length
  have hn := line63
  have hj : j.toNat = k := by
    rw [PySem.seqIndex_of h0 h5] at h1
    exact Option.some.inj h1
  exact wpAny_getItem_list pl.isList h0 (by omega) (by rw [hj]; simpa using eu) ⟨w, H, I, ru, q⟩
theorem augix_ps (ok : XOk X tb cf c) {i : Nat} {k e : Ex} {o : Operator} {x : Str} {xk xe : Expr} {p ps pos : Pos} (hx : ckVar c i x = true) (ik : PE X xk (tI X.K cf k)) (hns : notSl xk = true) (ie : PE X xe (tI X.K cf e)) : PS X (.AugAssign (.Subscript (.Name x p) xk ps) o xe pos) (tSI X.K cf kp (.augix i k o e)) := by
  refine ps_imp (ps_augS (ckVar_ok ok hx) ik pget_list ie (aug_ok o) (set_ok (X := X) (by have := ok.hu; omega)) (by intro ov iv new; cases xk <;> first | rfl | exact nof hns)) fun D σ H _ ⟨ρ, fp, fz, fl, ρ', s, dj, e, q⟩ => ?_
  simp only [exec] at e
  split at e
  · cases e
  rename_i hsome
  have hs1 : ∃ d0 n0, gt ρ i = some (d0, n0) := by
    cases h : gt ρ i with
    | none => rw [h] at hsome; exact absurd rfl hsome
    | some s => exact ⟨s.1, s.2, rfl⟩
  obtain ⟨d0, n0, hg0⟩ := hs1
  obtain ⟨o0, _, _, _, _, hσ, _⟩ := SL.take s hg0
  obtain ⟨kk, ρ1, e1, e2⟩ := bind_inv e
  split at e2
  · rename_i l n1 j hg hk
    split at e2
    · rename_i x0 hat
      split at e2
      · rename_i h0
        obtain ⟨y, ρ2, e3, e4⟩ := bind_inv e2
        split at e4
        · rename_i d n z hg2 haug
          split at e4
          · rename_i d' hset
            cases e4
            refine ⟨o0, hσ, ex_step s dj e1 fun kv H1 f1 z1 f2 z2 rk s1 d1 x1 => ?_⟩
            rw [hk] at rk
            simp only [Rep] at rk
            obtain ⟨rfl, rfl, rfl⟩ := rk
            obtain ⟨o1, g1, g2, y1, y2, hσ1, r1, sr1, p1, p2⟩ := SL.take s1 hg
            rw [hσ] at hσ1
            cases hσ1
            obtain ⟨zz, r1f, _⟩ := r1.frz
            obtain ⟨a, vs, z', ho, ha, rl, _⟩ := r1f.toLst
            obtain ⟨w, zw, haw, hrw, _⟩ := atI_rep rl hat
            cases hrw.toInt
            refine ⟨a, vs, j, .int x0, ho, rfl, h0, SqL.of ha, haw, ?_⟩
            refine ex_step s1 d1.right e3 fun yv H2 f3 z3 f4 z4 ry s2 d2 x2 => ?_
            obtain ⟨zy, ryf, ly⟩ := ry.frz
            refine ⟨.int x0, y.1, zy, .int z, by simp [Rep], ryf, haug, fun u ru => ?_⟩
            obtain ⟨o', g1', g2', y1', y2', hσ', r2, sr, p1', p2'⟩ := SL.take s2 hg2
            rw [hσ] at hσ'
            cases hσ'
            have x3 : Ext false H fp fz H2 (f3 ++ f4) (z3 ++ z4) := Ext.trans0 (show Ext false H fp fz H1 f2 z2 from x1) x2
            have d4 := mut_dj p1' p2' d2
            refine set_core (v := (.int z, 0)) (kv := .int j) (f3 := []) (z3 := []) (nk := 0) r2 ru (by simp [Rep]) (show Disj ([] ++ g1') ([] ++ y1') from d4.right) hset fun H3 f' zz' hst rd l => ?_
            have l0 : Less (f3 ++ g1') (z3 ++ y1') g1' y1' := .by f3 (fun a => by simp only [List.count_append]; omega) fun a m => .inl (List.mem_append_right _ m)
            have l2 : Less (f3 ++ g1') (z3 ++ y1') ([] ++ f') ([] ++ zz') := l0.trans (by simpa using l)
            obtain ⟨F, Z, sF, dF, xF⟩ := mut_sl sr hσ p1' p2' d2 x3 hst rd l2
            exact q σ H3 F Z sF dF xF (.refl _ _)
          · cases e4
        · cases e4
      · cases e2
    · cases e2
  · cases e2
end
end Pi
/-! Pi22: the checker of statements. -/
namespace Pi
open PySem L2
def notComp : Expr → Bool
  | .ListComp _ _ _ _ => false
  | .SetComp _ _ _ _ => false
  | .DictComp _ _ _ _ _ => false
  | _ => true
def isTupE : Expr → Bool
  | .Tuple _ _ _ => true
  | _ => false
def foldE : Expr → Bool
  | .Tuple vs _ _ => vs.all (foldedForSure 8)
  | _ => false
def asgB (c : CkC) (y : Str) (py : Pos) : Expr → Bool
  | .ListComp _ _ scope lp => (c.sc.names.lookup y == some .local) && (py.line == lp.line) && !(scope.names.any fun (n, k) => n == y && (k == .local || k == .cell))
  | _ => false
def dropDoc : List Stmt → List Stmt
  | .Expr (.Constant (.str _) _ _) _ :: r => r
  | l => l
def parN (c : CkC) (kp : List Nat) (ln : Nat) (i : Nat) (x : Str) (p : Pos) : Bool := (c.N[i]? == some x) && (c.sc.names.lookup x == some .local) && (p.line == ln) && !kp.contains i
def notSeq : Sm → Bool
  | .seq _ _ => false
  | _ => true
/-- no stores are swapped -/
def ssOk (ts : List Expr) (x : Expr) : Bool := !isTupE x || foldE x || decide (4 ≤ ts.length) || !ts.all isNm
def ckS (tb : Tb) (c : CkC) (kp : List Nat) : Sm → List Stmt → Bool
  | .skip, [] => true
  | .skip, [.Pass _] => true
  | .seq a b, s :: r => notSeq a && ckS tb c kp a [s] && ckS tb c kp b r
  | .expr e, [.Expr x _] => ck tb c e x && notComp x
  | .asg (.nm i) e, [.Assign [.Name y py] x _] => ckTgt c i y && !kp.contains i && ck tb c e x && (notComp x || asgB c y py x)
  | .asg (.tp l) e, [.Assign [.Tuple ts k q] x _] => ckTg c (.tp l) (.Tuple ts k q) && (l.all fun i => !kp.contains i) && ck tb c e x && notComp x && ssOk ts x
  | .asg (.tn l) e, [.Assign [.Tuple ts k q] x _] => ckTg c (.tn l) (.Tuple ts k q) && ((tgSlots (.tn l)).all fun i => !kp.contains i) && ck tb c e x && notComp x && ssOk ts x
  | .augix i k o e, [.AugAssign (.Subscript (.Name x _) xk _) o' xe _] => (o == o') && ckVar c i x && ck tb c k xk && notSl xk && ck tb c e xe
  | .par [i, j] e, [.Assign [.Tuple [.Name x px, .Name y py] _ _] (.Tuple [a, b] _ _) _] => parN c kp px.line i x px && parN c kp px.line j y py && !(x == y) && !(i == j) && ckA tb c e [a, b] && !([a, b].all (foldedForSure 8)) && !([a, b].all (constantsAlone 8)) && !starB a && !starB b
  | .par [i, j, l] e, [.Assign [.Tuple [.Name x px, .Name y py, .Name z pz] _ _] (.Tuple [a, b, d] _ _) _] => parN c kp px.line i x px && parN c kp px.line j y py && parN c kp px.line l z pz && !(x == y) && !(x == z) && !(y == z) && !(i == j) && !(i == l) && !(j == l) &&
      ckA tb c e [a, b, d] && !([a, b, d].all (foldedForSure 8)) && !([a, b, d].all (constantsAlone 8)) && !starB a && !starB b && !starB d
  | .aug i o e, [.AugAssign (.Name x _) o' xe _] => (o == o') && ckTgt c i x && !kp.contains i && ck tb c e xe
  | .setix i k e, [.Assign [.Subscript (.Name x _) xk _] xv _] => ckVar c i x && ck tb c k xk && notSl xk && ck tb c e xv
  | .ret e, [.Return (some x) _] => ck tb c e x
  | .retn, [.Return none _] => true
  | .ifs t a b, [.If x sa sb _] => ckT tb c t x && ckS tb c kp a (dropDoc sa) && ckS tb c kp b (dropDoc sb)
  | .whl t b, [.While x body [] _] => ckT tb c t x && ckS tb c kp b (dropDoc body)
  | .fors none t it b, [.For xt xi body [] _] => ckI tb c it xt xi && ckTg c t xt && ((tgSlots t).all fun i => !kp.contains i) && ckS tb c kp b (dropDoc body)
  | .brk, [.Break _] => true
  | .cnt, [.Continue _] => true
  | .never, [_] => true
  | _, _ => false
section
variable {X : Cx} {tb : Tb} {cf : Cf} {c : CkC} {kp : List Nat}
theorem doc_drop {l : List Stmt} {a : Sm} (h : PSs X (dropDoc l) (tSI X.K cf kp a)) : PSs X l (tSI X.K cf kp a) := by
  unfold dropDoc at h
  split at h
  · exact doc_pss h
  · exact h
theorem sw_none {x : Expr} {l : Nat} {env : PySem.Env} (h : notComp x = true) : swapsWith x none l env = pure false := by cases x <;> first | rfl | exact nof h
theorem sw_nm {x : Expr} {y : Str} {p : Pos} {l : Nat} {env : PySem.Env} (h : notComp x = true) : swapsWith x (some (.Name y p)) l env = pure false := by cases x <;> first | rfl | exact nof h
theorem sw_tp {x : Expr} {ts : List Expr} {k : Nat} {p : Pos} {l : Nat} {env : PySem.Env} : swapsWithSole [.Tuple ts k p] x l env = pure false := by cases x <;> rfl
theorem ss_tp {x : Expr} {ts : List Expr} {k : Nat} {p : Pos} {env : PySem.Env} (h : isTupE x = false) : swappedStores [.Tuple ts k p] x env = pure none := by cases x <;> first | rfl | exact nof h.symm
theorem ssOk_ok {ts : List Expr} {x : Expr} {k : Nat} {p : Pos} {env : PySem.Env} (h : ssOk ts x = true) : swappedStores [.Tuple ts k p] x env = pure none := by
  simp only [ssOk, Bool.or_eq_true, Bool.not_eq_true', decide_eq_true_eq] at h
  rcases h with ((h | h) | h) | h
  · exact ss_tp h
  · cases x <;> first | exact nof h | exact ss_fold h
  · exact ss_many h
  · exact ss_nonm h
theorem not_t {b : Bool} (h : (!b) = true) : b = false := by simpa using h
theorem no_kp {i : Nat} (h : (!kp.contains i) = true) : i ∉ kp := by simpa using h
theorem parN_ok {ln i : Nat} {x : Str} {p : Pos} (h : parN c kp ln i x p = true) : c.N[i]? = some x ∧ c.sc.names.lookup x = some .local ∧ p.line = ln ∧ i ∉ kp := by
  simp only [parN, Bool.and_eq_true, beq_iff_eq] at h
  exact ⟨h.1.1.1, h.1.1.2, h.1.2, no_kp h.2⟩
theorem noStar {a : Expr} (h : (!starB a) = true) : ∀ e p, a ≠ .Starred e p := by
  rintro e p rfl; exact nof h
theorem st_ok (ok : XOk X tb cf c) (hp : PassesOwn (model X.prog X.w) X.A X.env X.xe) (hk : X.env.scope.kind = .function) : ∀ (sm : Sm), (∀ (s : Stmt), notSeq sm = true → ckS tb c kp sm [s] = true → PS X s (tSI X.K cf kp sm)) ∧ ∀ (l : List Stmt), ckS tb c kp sm l = true → PSs X l (tSI X.K cf kp sm) := by
  have up : ∀ (sm : Sm), notSeq sm = true → sm ≠ .skip → (∀ s l t, ckS tb c kp sm (s :: t :: l) = false) → ckS tb c kp sm [] = false → (∀ (s : Stmt), ckS tb c kp sm [s] = true → PS X s (tSI X.K cf kp sm)) → (∀ (s : Stmt), notSeq sm = true → ckS tb c kp sm [s] = true → PS X s (tSI X.K cf kp sm)) ∧ ∀ (l : List Stmt), ckS tb c kp sm l = true → PSs X l (tSI X.K cf kp sm) := by
    intro sm hn hs h2 h0 h1
    refine ⟨fun s _ h => h1 s h, fun l h => ?_⟩
    rcases l with _ | ⟨s, _ | ⟨t, l⟩⟩
    · rw [h0] at h; cases h
    · exact pss_one (h1 s h)
    · rw [h2] at h; cases h
  intro sm
  induction sm with
  | skip =>
    refine ⟨fun s _ h => ?_, fun l h => ?_⟩
    · cases s <;> first | exact nof h | exact skip_ps
    · rcases l with _ | ⟨s, _ | ⟨t, l⟩⟩
      · exact skip_pss
      · cases s <;> first | exact nof h | exact pss_one skip_ps
      · cases s <;> exact nof h
  | seq a b iha ihb =>
    refine ⟨fun s h => nof h, fun l h => ?_⟩
    cases l with
    | nil => exact nof h
    | cons s r =>
      simp only [ckS, Bool.and_eq_true] at h
      exact seq_pss (iha.1 s h.1.1 h.1.2) (ihb.2 r h.2)
  | expr e =>
    refine up _ rfl (by simp) (fun s l t => ?_) rfl fun s h => ?_
    · cases s <;> rfl
    · cases s <;> first | exact nof h | skip
      simp only [ckS, Bool.and_eq_true] at h
      exact expr_ps ((ok_all e).pe X c _ ok h.1) (sw_none h.2)
  | asg t e =>
    cases t with
    | nm i =>
      refine up _ rfl (by simp) (fun s l t => ?_) rfl fun s h => ?_
      · cases s <;> first | rfl | simp [ckS]
      · cases s <;> first | exact nof h | skip
        rename_i ts x p
        rcases ts with _ | ⟨t1, _ | ⟨t2, ts⟩⟩ <;> first | exact nof h | (cases t1 <;> exact nof h) | skip
        cases t1 <;> first | exact nof h | skip
        simp only [ckS, Bool.and_eq_true, Bool.or_eq_true] at h
        obtain ⟨⟨⟨h1, h2⟩, h3⟩, h4⟩ := h
        obtain ⟨a1, a2, a3⟩ := tgt_loc ok h1
        rcases h4 with h4 | h4
        · exact asg_gen (ps_set ok.nd a1 a2 ((ok_all e).pe X c _ ok h3) (sw_nm h4) a3) (fun σ H Q q => q) (no_kp h2)
        · cases x <;> first | exact nof h4 | skip
          simp only [asgB, Bool.and_eq_true, beq_iff_eq, Bool.not_eq_true'] at h4
          obtain ⟨te, b1, b2⟩ := lc_set ok (by rw [← ok.hN]; exact a1) h4.1.1 (sw_true hk (by rw [ok.hsc]; exact h4.1.1) (by simpa using h4.1.2) h4.2) e h3
          exact asg_gen b1 b2 (no_kp h2)
    | tp is =>
      refine up _ rfl (by simp) (fun s l t => ?_) rfl fun s h => ?_
      · cases s <;> first | rfl | simp [ckS]
      · cases s <;> first | exact nof h | skip
        rename_i ts x p
        rcases ts with _ | ⟨t1, _ | ⟨t2, ts⟩⟩ <;> first | exact nof h | (cases t1 <;> exact nof h) | skip
        cases t1 <;> first | exact nof h | skip
        simp only [ckS, Bool.and_eq_true] at h
        obtain ⟨⟨⟨⟨h1, h2⟩, h3⟩, h4⟩, h5⟩ := h
        exact asg_tp ok ((ok_all e).pe X c _ ok h3) h1 (fun i m => no_kp (by simpa using List.all_eq_true.mp h2 i m)) sw_tp (ssOk_ok h5) rfl
    | tn is =>
      refine up _ rfl (by simp) (fun s l t => ?_) rfl fun s h => ?_
      · cases s <;> first | rfl | simp [ckS]
      · cases s <;> first | exact nof h | skip
        rename_i ts x p
        rcases ts with _ | ⟨t1, _ | ⟨t2, ts⟩⟩ <;> first | exact nof h | (cases t1 <;> exact nof h) | skip
        cases t1 <;> first | exact nof h | skip
        simp only [ckS, Bool.and_eq_true] at h
        obtain ⟨⟨⟨⟨h1, h2⟩, h3⟩, h4⟩, h5⟩ := h
        exact asg_tn ok ((ok_all e).pe X c _ ok h3) h1 (fun i m => no_kp (by simpa using List.all_eq_true.mp h2 i m)) sw_tp (ssOk_ok h5) rfl
  | par is e =>
    rcases is with _ | ⟨i, _ | ⟨j, _ | ⟨l, _ | ⟨m, is⟩⟩⟩⟩
    · exact ⟨fun s _ h => nof h, fun l h => nof h⟩
    · exact ⟨fun s _ h => nof h, fun l h => nof h⟩
    · refine up _ rfl (by simp) (fun s l t => ?_) rfl fun s h => ?_
      · cases s <;> first | rfl | simp [ckS]
      · cases s <;> first | exact nof h | skip
        rename_i ts x p
        rcases ts with _ | ⟨t1, _ | ⟨t2, ts⟩⟩ <;> first | exact nof h | (simp [ckS] at h; done) | skip
        cases t1 <;> first | exact nof h | (simp [ckS] at h; done) | skip
        rename_i es k q
        cases x <;> first | exact nof h | (simp [ckS] at h; done) | skip
        rename_i vs k2 q2
        rcases es with _ | ⟨e1, _ | ⟨e2, _ | ⟨e3, es⟩⟩⟩ <;> first | exact nof h | (simp [ckS] at h; done) | skip
        rcases vs with _ | ⟨v1, _ | ⟨v2, _ | ⟨v3, vs⟩⟩⟩ <;> first | exact nof h | (simp [ckS] at h; done) | skip
        cases e1 <;> first | exact nof h | (simp [ckS] at h; done) | skip
        cases e2 <;> first | exact nof h | (simp [ckS] at h; done) | skip
        simp only [ckS, Bool.and_eq_true] at h
        obtain ⟨⟨⟨⟨⟨⟨⟨⟨h1, h2⟩, h3⟩, h4⟩, h5⟩, h6⟩, h7⟩, h8⟩, h9⟩ := h
        obtain ⟨a1, a2, a3, a4⟩ := parN_ok h1
        obtain ⟨b1, b2, b3, b4⟩ := parN_ok h2
        exact par2_ps ok a1 b1 (by simpa using h4) a2 b2 (PAK.pa' (ok_all e) ok h5) a4 b4 (sw2 hk (by rw [ok.hsc]; exact a2) (by rw [ok.hsc]; exact b2) b3 (by simpa using h3) (noStar h8) (noStar h9) (not_t h6) (not_t h7))
    · refine up _ rfl (by simp) (fun s l t => ?_) rfl fun s h => ?_
      · cases s <;> first | rfl | simp [ckS]
      · cases s <;> first | exact nof h | skip
        rename_i ts x p
        rcases ts with _ | ⟨t1, _ | ⟨t2, ts⟩⟩ <;> first | exact nof h | (simp [ckS] at h; done) | skip
        cases t1 <;> first | exact nof h | (simp [ckS] at h; done) | skip
        rename_i es k q
        cases x <;> first | exact nof h | (simp [ckS] at h; done) | skip
        rename_i vs k2 q2
        rcases es with _ | ⟨e1, _ | ⟨e2, _ | ⟨e3, _ | ⟨e4, es⟩⟩⟩⟩ <;> first | exact nof h | (simp [ckS] at h; done) | skip
        rcases vs with _ | ⟨v1, _ | ⟨v2, _ | ⟨v3, _ | ⟨v4, vs⟩⟩⟩⟩ <;> first | exact nof h | (simp [ckS] at h; done) | skip
        cases e1 <;> first | exact nof h | (simp [ckS] at h; done) | skip
        cases e2 <;> first | exact nof h | (simp [ckS] at h; done) | skip
        cases e3 <;> first | exact nof h | (simp [ckS] at h; done) | skip
        simp only [ckS, Bool.and_eq_true] at h
        obtain ⟨⟨⟨⟨⟨⟨⟨⟨⟨⟨⟨⟨⟨⟨h1, h2⟩, h3⟩, h4⟩, h5⟩, h6⟩, h7⟩, h8⟩, h9⟩, h10⟩, h11⟩, h12⟩, h13⟩, h14⟩, h15⟩ := h
        obtain ⟨a1, a2, a3, a4⟩ := parN_ok h1
        obtain ⟨b1, b2, b3, b4⟩ := parN_ok h2
        obtain ⟨c1, c2, c3, c4⟩ := parN_ok h3
        exact par3_ps ok a1 b1 c1 (by simpa using h7) (by simpa using h8) (by simpa using h9) a2 b2 c2 (PAK.pa' (ok_all e) ok h10) a4 b4 c4 (sw3 hk (by rw [ok.hsc]; exact a2) (by rw [ok.hsc]; exact b2) (by rw [ok.hsc]; exact c2) b3 c3 (by simpa using h4) (by simpa using h5) (by simpa using h6) (noStar h13) (noStar h14) (noStar h15) (not_t h11) (not_t h12))
    · exact ⟨fun s _ h => nof h, fun l h => nof h⟩
  | aug i o e =>
    refine up _ rfl (by simp) (fun s l t => ?_) rfl fun s h => ?_
    · cases s <;> first | rfl | simp [ckS]
    · cases s <;> first | exact nof h | skip
      rename_i tg o' xe p
      cases tg <;> first | exact nof h | skip
      simp only [ckS, Bool.and_eq_true, beq_iff_eq] at h
      obtain ⟨⟨⟨rfl, h1⟩, h2⟩, h3⟩ := h
      exact aug_ps ok h1 (no_kp h2) ((ok_all e).pe X c _ ok h3)
  | setix i k e =>
    refine up _ rfl (by simp) (fun s l t => ?_) rfl fun s h => ?_
    · cases s <;> first | rfl | simp [ckS]
    · cases s <;> first | exact nof h | skip
      rename_i ts x p
      rcases ts with _ | ⟨t1, _ | ⟨t2, ts⟩⟩ <;> first | exact nof h | (cases t1 <;> exact nof h) | (simp [ckS] at h; done) | skip
      cases t1 <;> first | exact nof h | skip
      rename_i o k' ps
      cases o <;> first | exact nof h | skip
      simp only [ckS, Bool.and_eq_true] at h
      obtain ⟨⟨⟨h1, h2⟩, h3⟩, h4⟩ := h
      exact setix_ps ok h1 ((ok_all k).pe X c _ ok h2) h3 ((ok_all e).pe X c _ ok h4)
  | mkins cn fs => exact ⟨fun s _ h => nof h, fun l h => nof h⟩
  | augix i k o e =>
    refine up _ rfl (by simp) (fun s l t => ?_) rfl fun s h => ?_
    · cases s <;> first | rfl | simp [ckS]
    · cases s <;> first | exact nof h | skip
      rename_i t o' xe p
      cases t <;> first | exact nof h | skip
      rename_i o2 k' ps
      cases o2 <;> first | exact nof h | skip
      simp only [ckS, Bool.and_eq_true, beq_iff_eq] at h
      obtain ⟨⟨⟨⟨rfl, h1⟩, h2⟩, h3⟩, h4⟩ := h
      exact augix_ps ok h1 ((ok_all k).pe X c _ ok h2) h3 ((ok_all e).pe X c _ ok h4)
  | ret e =>
    refine up _ rfl (by simp) (fun s l t => ?_) rfl fun s h => ?_
    · cases s <;> first | rfl | simp [ckS]
    · cases s <;> first | exact nof h | skip
      rename_i v p
      cases v <;> first | exact nof h | exact ret_ps ((ok_all e).pe X c _ ok h)
  | retn =>
    refine up _ rfl (by simp) (fun s l t => ?_) rfl fun s h => ?_
    · cases s <;> first | rfl | simp [ckS]
    · cases s <;> first | exact nof h | skip
      rename_i v p
      cases v <;> first | exact nof h | exact retn_ps
  | ifs t a b iha ihb =>
    refine up _ rfl (by simp) (fun s l t => ?_) rfl fun s h => ?_
    · cases s <;> first | rfl | simp [ckS]
    · cases s <;> first | exact nof h | skip
      simp only [ckS, Bool.and_eq_true] at h
      exact ifs_ps ((ok_all t).pt X c _ ok h.1.1) (doc_drop (iha.2 _ h.1.2)) (doc_drop (ihb.2 _ h.2))
  | whl t b ihb =>
    refine up _ rfl (by simp) (fun s l t => ?_) rfl fun s h => ?_
    · cases s <;> first | rfl | simp [ckS]
    · cases s <;> first | exact nof h | skip
      rename_i x body els p
      cases els <;> first | exact nof h | skip
      simp only [ckS, Bool.and_eq_true] at h
      exact whl_ps hp ((ok_all t).pt X c _ ok h.1) (doc_drop (ihb.2 _ h.2))
  | fors hide t it b ihb =>
    cases hide with
    | some i => exact ⟨fun s _ h => nof h, fun l h => nof h⟩
    | none =>
      refine up _ rfl (by simp) (fun s l t => ?_) rfl fun s h => ?_
      · cases s <;> first | rfl | simp [ckS]
      · cases s <;> first | exact nof h | skip
        rename_i xt xi body els p
        cases els <;> first | exact nof h | skip
        simp only [ckS, Bool.and_eq_true] at h
        obtain ⟨⟨⟨h1, h2⟩, h3⟩, h4⟩ := h
        exact fors_ps ok hp ((ok_all it).pi X c _ _ ok h1) h2 (fun i m => no_kp (by simpa using List.all_eq_true.mp h3 i m)) (doc_drop (ihb.2 _ h4)) (fun v => set_no (fun a k p e => by
          subst e
          cases it <;> first | exact nof h1 | (simp only [ckI, Bool.and_false, Bool.false_eq_true] at h1)) v)
  | brk =>
    refine up _ rfl (by simp) (fun s l t => ?_) rfl fun s h => ?_
    · cases s <;> rfl
    · cases s <;> first | exact nof h | exact brk_ps
  | cnt =>
    refine up _ rfl (by simp) (fun s l t => ?_) rfl fun s h => ?_
    · cases s <;> rfl
    · cases s <;> first | exact nof h | exact cnt_ps
  | never => exact up _ rfl (by simp) (fun s l t => rfl) rfl fun s h => never_ps
end
end Pi
/-! Pi22c: the body of an __init__ that checks its parameters and then stores them -/
namespace Pi
open PySem L2
def ckF (c : CkC) : List (Str × Nat) → List Stmt → Bool
  | [], [] => true
  | (f, j) :: r, .Assign [.Attribute (.Name s _) f' _] (.Name p _) _ :: l => (f == f') && ckVar c 0 s && ckVar c j p && ckF c r l
  | _, _ => false
/-- no return within -/
def noRet : Sm → Bool
  | .skip => true
  | .never => true
  | .asg _ _ => true
  | .expr _ => true
  | .seq a b => noRet a && noRet b
  | .ifs _ a b => noRet a && noRet b
  | _ => false
def ckC (tb : Tb) (c : CkC) : Sm → List Stmt → Bool
  | .seq a b, s :: r => notSeq a && ckS tb c [0] a [s] && noRet a && ckC tb c b r
  | .mkins _ fs, l => ckF c fs l && decide ((fs.map (·.1)).Nodup) && decide (fs.length ≤ 100)
  | _, _ => false
/-- the class and the fields that a body makes -/
def mkOf : Sm → Str × List (Str × Nat)
  | .seq _ b => mkOf b
  | .mkins c fs => (c, fs)
  | _ => (Str.empty, [])
def valAt (σ : St) (j : Nat) : V := ((σ[j]?).getD none).getD .non
def asgV (σ : St) : List (Str × Nat) → List (Str × V) → List (Str × V)
  | [], vs => vs
  | (f, j) :: r, vs => asgV σ r (putF f (valAt σ j) vs)
theorem asgV_out {σ : St} {f : Str} : ∀ (fs : List (Str × Nat)) (vs : List (Str × V)), f ∉ fs.map (·.1) → (asgV σ fs vs).lookup f = vs.lookup f
  | [], vs, _ => rfl
  | (g, j) :: r, vs, h => by
    rw [asgV, asgV_out r _ fun m => h (by simp only [List.map_cons]; exact List.mem_cons_of_mem _ m), lookup_putF, if_neg fun e => h (by simp [e])]
theorem asgV_in {σ : St} {f : Str} {j : Nat} : ∀ (fs : List (Str × Nat)) (vs : List (Str × V)), (fs.map (·.1)).Nodup → (f, j) ∈ fs → (asgV σ fs vs).lookup f = some (valAt σ j)
  | [], vs, _, m => absurd m List.not_mem_nil
  | (g, i) :: r, vs, nd, m => by
    rw [List.map_cons, List.nodup_cons] at nd
    rw [asgV]
    rcases List.mem_cons.mp m with e | m
    · injection e with e1 e2
      subst e1 e2
      rw [asgV_out r _ nd.1, lookup_putF, if_pos rfl]
    · exact asgV_in r _ nd.2 m
theorem putF_len (f : Str) (v : V) : ∀ vs : List (Str × V), (putF f v vs).length ≤ vs.length + 1
  | [] => by simp [putF]
  | (g, x) :: r => by
    rw [putF]
    split
    · simp
    · have := putF_len f v r
      simp; omega
def tFl (K : PySem.W.Frag) (fs : List (Str × Nat)) : TS := fun D σ H => ∃ C x dx vs, σ[0]? = some (some (.ref x)) ∧ H x = some (.ins C dx vs) ∧ Cls K C ∧ vs.length + fs.length ≤ 500 ∧ (∀ f ∈ fs, NoAttr K C f.1 ∧ ∃ v, σ[f.2]? = some (some v)) ∧
  ∀ H', (∀ a, a ≠ x → H' a = H a) → H' x = some (.ins C dx (asgV σ fs vs)) → D.nx σ H'
section
variable {X : Cx} {tb : Tb} {cf : Cf} {c : CkC}
theorem flds_pss (ok : XOk X tb cf c) : ∀ (fs : List (Str × Nat)) (l : List Stmt), ckF c fs l = true → PSs X l (tFl X.K fs)
  | [], [], _ => pss_imp pss_nil fun D σ H _ ⟨C, x, dx, vs, h1, h2, _, _, _, k⟩ => k H (fun _ _ => rfl) h2
  | (f, j) :: r, s :: l, h => by
    have hs : ∃ sn ps pa f' p pp pos, s = .Assign [.Attribute (.Name sn ps) f' pa] (.Name p pp) pos ∧ (f == f' && ckVar c 0 sn && ckVar c j p && ckF c r l) = true := by
      unfold ckF at h
      split at h
      · rename_i h0; cases h0
      · rename_i e1 e2
        cases e1
        cases e2
        exact ⟨_, _, _, _, _, _, _, rfl, h⟩
      · cases h
    obtain ⟨sn, ps, pa, f', p, pp, pos, hs, h9⟩ := hs
    subst hs
    rw [Bool.and_eq_true, Bool.and_eq_true, Bool.and_eq_true] at h9
    obtain ⟨⟨⟨h0, h1⟩, h2⟩, h3⟩ := h9
    have h0 := beq_iff_eq.mp h0
    subst h0
    refine pss_imp (pss_cons (ps_fld (ckVar_ok ok h1) (ckVar_ok ok h2) rfl) (flds_pss ok r l h3)) fun D σ H _ ⟨C, x, dx, vs, g1, g2, g3, g4, g5, k⟩ => ?_
    obtain ⟨na, v, hv⟩ := g5 (f, j) (List.mem_cons_self ..)
    have hval : valAt σ j = v := by unfold valAt; rw [hv]; rfl
    have hl := putF_len f v vs
    rw [List.length_cons] at g4
    refine ⟨v, hv, .ref x, g1, x, C, dx, vs, rfl, g2, g3, na, by omega, ?_⟩
    refine ⟨C, x, dx, putF f v vs, g1, upd_same, g3, by omega, fun f m => g5 f (List.mem_cons_of_mem _ m), fun H' e1 e2 => k H' (fun a ha => ?_) ?_⟩
    · rw [e1 a ha, upd_ne ha]
    · rw [e2, asgV, hval]
  | [], _ :: _, h => by simp [ckF] at h
  | _ :: _, [], h => by simp [ckF] at h
/-- the body's promise: the instance x stands, its fields stored -/
def tSC (K : PySem.W.Frag) (cf : Cf) (sm : Sm) : TS := fun D σ H => ∃ ρ fp fz v ρ' x C dx, SL K H σ ρ fp fz ∧ Disj fp fz ∧ σ[0]? = some (some (.ref x)) ∧ H x = some (.ins C dx []) ∧ x ∉ fp ∧ x ∉ fz ∧ Cls K C ∧ PySem.W.nsIn K mainGlobals (mkOf sm).1 = some (some (.ref C)) ∧ (∀ f ∈ (mkOf sm).2, NoAttr K C f.1) ∧
  exec cf sm ρ = .ok (.rt v) ρ' ∧ ∀ σ' H', Rep K H' v.1 v.2 (.ref x) [] [x] → Stay (x :: fp) H H' → D.nx σ' H'
theorem flat_at {K : PySem.W.Frag} {H : Hp} {σ : St} {ρ : Env} {fp fz : List Addr} {j : Nat} {d : D} {n : Nat} (s : SL K H σ ρ fp fz) (h : gt ρ j = some (d, n)) (hf : flatD d = true) : ∃ v, σ[j]? = some (some v) ∧ FlatV d v := by
  obtain ⟨v, _, _, _, _, hσ, r, _⟩ := SL.take s h
  refine ⟨v, hσ, ?_⟩
  cases d <;> first | exact nof hf | (simp only [Rep] at r; exact r.1)
theorem flds_ok {K : PySem.W.Frag} {H : Hp} {σ : St} {ρ : Env} {fp fz : List Addr} (s : SL K H σ ρ fp fz) : ∀ (fs : List (Str × Nat)) (l : List (Str × D)), fldsOf fs ρ = some l → (∀ f ∈ fs, ∃ v, σ[f.2]? = some (some v)) ∧ (∀ f d, l.lookup f = some d → ∃ j, (f, j) ∈ fs ∧ FlatV d (valAt σ j)) ∧ ∀ f, l.lookup f = none → f ∉ fs.map (·.1)
  | [], l, h => by
    cases h
    exact ⟨fun f m => absurd m List.not_mem_nil, (fun f d h => nomatch h), fun f _ m => absurd m List.not_mem_nil⟩
  | (g, j) :: r, l, h => by
    simp only [fldsOf] at h
    split at h
    · rename_i d n l' hg hr
      split at h
      · rename_i hfl
        cases h
        obtain ⟨a, b, b2⟩ := flds_ok s r l' hr
        obtain ⟨v, hv, hd⟩ := flat_at s hg hfl
        refine ⟨fun f m => (List.mem_cons.mp m).elim (fun e => e ▸ ⟨v, hv⟩) (a f), fun f d' h' => ?_, fun f h' => ?_⟩
        rw [List.lookup_cons] at h'
        split at h'
        · rename_i he
          cases h'
          have : f = g := by simpa using he
          subst this
          exact ⟨j, List.mem_cons_self .., by unfold valAt; rw [hv]; exact hd⟩
        · obtain ⟨i, hi, hf⟩ := b f d' h'
          exact ⟨i, List.mem_cons_of_mem _ hi, hf⟩
        · rw [List.lookup_cons] at h'
          split at h'
          · cases h'
          · rename_i he
            intro m
            simp only [List.map_cons] at m
            rcases List.mem_cons.mp m with e | m
            · subst e; simp at he
            · exact b2 f h' m
      · cases h
    · cases h
theorem noRet_ok {v : Sl} {ρ' : Env} : ∀ (a : Sm) (ρ : Env), noRet a = true → exec cf a ρ ≠ .ok (.rt v) ρ'
  | .skip, ρ, _ => by simp [exec]
  | .never, ρ, _ => by simp [exec]
  | .asg t e, ρ, _ => by
    intro h
    cases t with
    | nm i =>
      simp only [exec] at h
      obtain ⟨_, _, _, h2⟩ := bind_inv h
      cases h2
    | tp l =>
      simp only [exec] at h
      obtain ⟨_, _, _, h2⟩ := bind_inv h
      obtain ⟨_, _, _, h3⟩ := bind_inv h2
      cases h3
    | tn l =>
      simp only [exec] at h
      obtain ⟨_, _, _, h2⟩ := bind_inv h
      obtain ⟨_, _, _, h3⟩ := bind_inv h2
      cases h3
  | .expr e, ρ, _ => by
    intro h
    simp only [exec] at h
    obtain ⟨_, _, _, h2⟩ := bind_inv h
    cases h2
  | .seq a b, ρ, hn => by
    intro h
    simp only [noRet, Bool.and_eq_true] at hn
    simp only [exec] at h
    obtain ⟨fl, ρ1, h1, h2⟩ := bind_inv h
    cases fl with
    | nx => exact noRet_ok b ρ1 hn.2 h2
    | bk => cases h2
    | ct => cases h2
    | rt d => cases h2; exact noRet_ok a ρ hn.1 h1
  | .ifs c a b, ρ, hn => by
    intro h
    simp only [noRet, Bool.and_eq_true] at hn
    simp only [exec] at h
    obtain ⟨t, ρ1, h1, h2⟩ := bind_inv h
    split at h2
    · exact noRet_ok a ρ1 hn.1 h2
    · exact noRet_ok b ρ1 hn.2 h2
theorem cls_pss (ok : XOk X tb cf c) (hp : PassesOwn (model X.prog X.w) X.A X.env X.xe) (hk : X.env.scope.kind = .function) : ∀ (sm : Sm) (l : List Stmt), ckC tb c sm l = true → PSs X l (tSC X.K cf sm) := by
  intro sm
  induction sm with
  | seq a b iha ihb =>
    intro l h
    cases l with
    | nil => exact nof h
    | cons s r =>
      simp only [ckC, Bool.and_eq_true] at h
      obtain ⟨⟨⟨h1, h2⟩, h3⟩, h4⟩ := h
      refine pss_imp (pss_cons ((st_ok ok hp hk a).1 s h1 h2) (ihb r h4)) fun D σ H _ ⟨ρ, fp, fz, v, ρ', x, C, dx, s, dj, hσ, hx, n1, n2, hc, hn, hna, e, k⟩ => ?_
      simp only [exec] at e
      obtain ⟨f1, ρ1, e1, e2⟩ := bind_inv e
      refine ⟨ρ, fp, fz, f1, ρ1, s, dj, e1, ?_⟩
      cases f1 with
      | nx =>
        intro σ' H' f z s' d' x' kp
        have hxw : x ∉ wset false fp := fun m => n1 (wset_sub x m)
        have hx' : H' x = some (.ins C dx []) := x'.stay x _ hx fun m => absurd m hxw
        have m1 : x ∉ f := fun m => (x'.fpx x m).elim n1 fun h => by rw [hx] at h; cases h
        have m2 : x ∉ z := fun m => (x'.fzx x m).elim n1 fun h => h.elim n2 fun h => by rw [hx] at h; cases h
        refine ⟨ρ1, f, z, v, ρ', x, C, dx, s', d', (kp 0 (by simp)).trans hσ, hx', m1, m2, hc, hn, hna, e2, fun σ2 H2 r2 st => k σ2 H2 r2 fun a o ha hm => ?_⟩
        have h0 : H' a = some o := x'.stay a o ha fun m => hm (List.mem_cons_of_mem _ (wset_sub a m))
        refine st a o h0 fun m => ?_
        rcases List.mem_cons.mp m with e | m
        · exact hm (by rw [e]; exact List.mem_cons_self ..)
        · rcases x'.fpx a m with m | h
          · exact hm (List.mem_cons_of_mem _ m)
          · rw [ha] at h; cases h
      | bk => cases e2
      | ct => cases e2
      | rt d => exact absurd e1 (noRet_ok a ρ h3)
  | mkins cn fs =>
    intro l h
    simp only [ckC, Bool.and_eq_true, decide_eq_true_eq] at h
    obtain ⟨⟨h1, h2⟩, h3⟩ := h
    refine pss_imp (flds_pss ok fs l h1) fun D σ H _ ⟨ρ, fp, fz, v, ρ', x, C, dx, s, dj, hσ, hx, n1, n2, hc, hn, hna, e, k⟩ => ?_
    simp only [exec] at e
    split at e
    · rename_i ld hl
      cases e
      obtain ⟨g1, g2, g3⟩ := flds_ok s fs ld hl
      refine ⟨C, x, dx, [], hσ, hx, hc, by simp; omega, fun f m => ⟨hna f m, g1 f m⟩, fun H' e1 e2 => k σ H' ?_ fun a o ha hm => ?_⟩
      · simp only [Rep]
        refine ⟨x, C, dx, _, rfl, trivial, rfl, e2, ⟨hn, hc, fun f d hf => ?_, fun f hf => asgV_out fs [] (g3 f hf)⟩⟩
        obtain ⟨j, hj, hd⟩ := g2 f d hf
        exact ⟨hna (f, j) hj, _, asgV_in fs [] h2 hj, hd⟩
      · by_cases hax : a = x
        · subst hax
          rw [hx] at ha
          cases ha
          exact absurd trivial (hm (List.mem_cons_self ..))
        · rw [e1 a hax]; exact ha
    · cases e
  | _ => intro l h; exact nof h
theorem doc_dropC {l : List Stmt} {a : Sm} (h : PSs X (dropDoc l) (tSC X.K cf a)) : PSs X l (tSC X.K cf a) := by
  unfold dropDoc at h
  split at h
  · exact pss_imp (pss_cons ps_doc h) fun D σ H _ h => h
  · exact h
end
end Pi
/-! Pi23: a def's promise; all defs by levels. -/
namespace Pi
open PySem L2
section
variable {K : PySem.W.Frag} {H : Hp}
theorem SL.pad : ∀ {σ : St} {ρ : Env} {f z : List Addr} (n : Nat), SL K H σ ρ f z → SL K H (σ ++ List.replicate n none) (ρ ++ List.replicate n none) f z
  | [], [], f, z, 0, s => s
  | [], [], f, z, n + 1, s => SL.pad (σ := []) (ρ := []) n s
  | _ :: σ, none :: ρ, f, z, n, s => SL.pad (σ := σ) (ρ := ρ) n s
  | x :: σ, some (d, k) :: ρ, f, z, n, s => by
    obtain ⟨v, f1, f2, z1, z2, e, e1, e2, r, s⟩ := s
    exact ⟨v, f1, f2, z1, z2, e, e1, e2, r, SL.pad (σ := σ) (ρ := ρ) n s⟩
  | [], _ :: _, _, _, _, s => s.elim
  | _ :: _, [], _, _, _, s => s.elim
theorem SL.cut : ∀ {σ : St} {ρ : Env} {f z : List Addr} (n : Nat), SL K H σ ρ f z → (∀ i, n ≤ i → gt ρ i = none) → SL K H (σ.take n) (ρ.take n) f z
  | [], [], f, z, n, s, _ => by simpa using s
  | _ :: σ, none :: ρ, f, z, 0, s, h => by
    have : SL K H (σ.take 0) (ρ.take 0) f z := SL.cut (σ := σ) (ρ := ρ) 0 s fun i _ => by simpa [gt] using h (i + 1) (by omega)
    simpa using this
  | _ :: σ, none :: ρ, f, z, n + 1, s, h => SL.cut (σ := σ) (ρ := ρ) n s fun i hi => by simpa [gt] using h (i + 1) (by omega)
  | x :: σ, some (d, k) :: ρ, f, z, 0, s, h => by
    have := h 0 (by omega)
    simp [gt] at this
  | x :: σ, some (d, k) :: ρ, f, z, n + 1, s, h => by
    obtain ⟨v, f1, f2, z1, z2, e, e1, e2, r, s⟩ := s
    exact ⟨v, f1, f2, z1, z2, e, e1, e2, r, SL.cut (σ := σ) (ρ := ρ) n s fun i hi => by simpa [gt] using h (i + 1) (by omega)⟩
  | [], _ :: _, _, _, _, s, _ => s.elim
  | _ :: _, [], _, _, _, s, _ => s.elim
theorem SL.dropAll {σ : St} {ρ : Env} {f z : List Addr} (s : SL K H σ ρ f z) : ∀ (vs : List Nat), ∃ f' z', SL K H σ (wp ρ vs) f' z' ∧ Less f z f' z'
  | [] => ⟨f, z, s, .refl _ _⟩
  | v :: vs => by
    obtain ⟨f1, z1, s1, l1⟩ := SL.dropAll s vs
    obtain ⟨f2, z2, s2, l2⟩ := SL.drop v s1
    exact ⟨f2, z2, s2, l1.trans l2⟩
theorem gt_wp_out (ρ : Env) : ∀ (vs : List Nat) (v : Nat), v ∉ vs → gt (wp ρ vs) v = gt ρ v
  | [], v, _ => rfl
  | w :: vs, v, h => by
    simp only [wp]
    rw [gt_st_ne _ _ _ _ (fun e => h (by rw [e]; exact List.mem_cons_self))]
    exact gt_wp_out ρ vs v fun m => h (List.mem_cons_of_mem _ m)
theorem wp_len (ρ : Env) : ∀ vs : List Nat, (wp ρ vs).length = ρ.length
  | [] => rfl
  | v :: vs => by simp only [wp]; rw [st_len, wp_len ρ vs]
theorem outs_ok {df : Df} {vs : List V} {σ : St} {ρ : Env} {f z : List Addr} (s : SL K H σ ρ f z) (hv : vs.length = df.np) (hn : df.np ≤ ρ.length) (hk : ∀ i ∈ df.io, i < df.np → σ[i]? = (vs.map some)[i]?) :
    ∃ f' z', SL K H (vs.map some) (outsOf df ρ) f' z' ∧ Less f z f' z' := by
  obtain ⟨f1, z1, s1, l1⟩ := SL.dropAll s ((List.range ρ.length).filter fun i => !(df.io.contains i && decide (i < df.np)))
  have g1 : ∀ i, gt (wp ρ ((List.range ρ.length).filter fun i => !(df.io.contains i && decide (i < df.np)))) i = if i ∈ df.io ∧ i < df.np then gt ρ i else none := by
    intro i
    by_cases hi : i ∈ df.io ∧ i < df.np
    · rw [if_pos hi]
      exact gt_wp_out _ _ _ (by simp [hi.1, hi.2])
    · rw [if_neg hi]
      by_cases hl : i < ρ.length
      · refine gt_wp _ _ _ ?_
        simp only [List.mem_filter, List.mem_range, hl, true_and, Bool.not_eq_true', Bool.and_eq_false_iff]
        by_cases h1 : i ∈ df.io
        · exact .inr (by simpa using fun h => hi ⟨h1, h⟩)
        · exact .inl (by simpa using h1)
      · rw [gt_get, List.getElem?_eq_none (by rw [wp_len]; omega)]; rfl
  have s2 := SL.cut df.np s1 fun i hi => by rw [g1, if_neg (by omega)]
  have e1 : (wp ρ ((List.range ρ.length).filter fun i => !(df.io.contains i && decide (i < df.np)))).take df.np = outsOf df ρ := by
    apply List.ext_getElem?
    intro i
    rw [List.getElem?_take]
    unfold outsOf
    rw [List.getElem?_map]
    by_cases hi : i < df.np
    · rw [if_pos hi, List.getElem?_range hi]
      have hl : i < (wp ρ ((List.range ρ.length).filter fun i => !(df.io.contains i && decide (i < df.np)))).length := by rw [wp_len]; omega
      have h := g1 i
      rw [gt_get, List.getElem?_eq_getElem hl] at h
      rw [List.getElem?_eq_getElem hl]
      simp only [Option.getD_some] at h
      rw [h]
      by_cases h1 : i ∈ df.io
      · simp [h1, hi]
      · simp [h1]
    · rw [if_neg hi, List.getElem?_eq_none (by simpa using hi)]; rfl
  rw [e1] at s2
  have hσl : σ.length = ρ.length := SL.len s
  refine ⟨f1, z1, SL.cong s2 (by simp [hv]; omega) fun i hi => ?_, l1⟩
  have hio : i ∈ df.io ∧ i < df.np := by
    rw [← e1, gt_get, List.getElem?_take] at hi
    split at hi
    · rename_i hlt
      have := g1 i
      rw [gt_get] at this
      rw [this] at hi
      split at hi
      · assumption
      · exact absurd rfl hi
    · exact absurd rfl hi
  rw [List.getElem?_take, if_pos hio.2]
  exact (hk i hio.1 hio.2).symm
end
theorem gt_pad : ∀ (ρ : Env) (n i : Nat), gt (ρ ++ List.replicate n none) i = gt ρ i
  | [], n, i => by
    rw [gt_get]
    simp only [List.nil_append, gt, List.getElem?_replicate]
    split <;> rfl
  | _ :: _, _, 0 => rfl
  | _ :: ρ, n, i + 1 => gt_pad ρ n i
theorem outs_ok2 {K : PySem.W.Frag} {H : Hp} {df : Df} {vs : List V} {σ : St} {ρ : Env} {f z : List Addr} (s : SL K H σ ρ f z) (hv : vs.length = df.np) (hk : ∀ i ∈ df.io, i < df.np → σ[i]? = (vs.map some)[i]?) :
    ∃ f' z', SL K H (vs.map some) (outsOf df ρ) f' z' ∧ Less f z f' z' := by
  have e : outsOf df ρ = outsOf df (ρ ++ List.replicate df.np none) := by
    unfold outsOf
    simp only [gt_pad]
  rw [e]
  refine outs_ok (SL.pad df.np s) hv (by simp) fun i m hi => ?_
  have h := hk i m hi
  have hl : i < σ.length := by
    have h2 : (vs.map some)[i]? = some (some (vs[i]'(by omega))) := by simp [hv, hi]
    rw [h2] at h
    exact (List.getElem?_eq_some_iff.mp h).1
  rw [List.getElem?_append_left hl]
  exact h
/-! ### a def -/
/-- what is told of a def of the text -/
structure Ent where
  nm : Str
  df : Df
  N : List Str
  ps : List Str
  st : Stmt
def noFree (sc : Scope) : Bool := sc.names.all fun y => match y.2 with
  | .free => false
  | _ => true
def entOk (tb : Tb) (e : Ent) : Bool :=
  ckS tb ⟨e.N, defScope e.st, fun _ => true⟩ e.df.io e.df.body (dropDoc (defBody e.st)) && !isMk e.df.body && decide (e.N.length = e.df.nl) && decide (e.ps.length = e.df.np) && decide (e.N.Nodup) && decide (e.N.take e.ps.length = e.ps) &&
  (e.ps.all fun x => (defScope e.st).names.lookup x == some .local || (defScope e.st).names.lookup x == some .cell) && noFree (defScope e.st) &&
  (match (defScope e.st).kind with | .function => true | _ => false) && !(defScope e.st).isCoroutine && !(defScope e.st).isGenerator
theorem ent_mk {tb : Tb} {e : Ent} (h : entOk tb e = true) : isMk e.df.body = false := by
  unfold entOk at h
  simp only [Bool.and_eq_true, Bool.not_eq_true'] at h
  exact h.1.1.1.1.1.1.1.1.1.2
theorem ent_scope {tb : Tb} {e : Ent} (h : entOk tb e = true) : FnScope e.N e.ps (defScope e.st) ∧ ckS tb ⟨e.N, defScope e.st, fun _ => true⟩ e.df.io e.df.body (dropDoc (defBody e.st)) = true ∧ e.N.length = e.df.nl ∧ e.ps.length = e.df.np := by
  unfold entOk at h
  simp only [Bool.and_eq_true, decide_eq_true_eq, Bool.not_eq_true', List.all_eq_true, Bool.or_eq_true, beq_iff_eq] at h
  obtain ⟨⟨⟨⟨⟨⟨⟨⟨⟨⟨h1, _⟩, h2⟩, h3⟩, h4⟩, h5⟩, h6⟩, h7⟩, h8⟩, h9⟩, h10⟩ := h
  refine ⟨⟨?_, h9, h10, h4, h5, h6, fun y m hy => ?_⟩, h1, h2, h3⟩
  · split at h8
    · assumption
    · cases h8
  · have := List.all_eq_true.mp (show (defScope e.st).names.all _ = true from h7) y m
    rw [hy] at this
    cases this
/-- an __init__ (nm: the class; ps with self) -/
def centOk (tb : Tb) (e : Ent) : Bool :=
  ckC tb ⟨e.N, defScope e.st, fun _ => true⟩ e.df.body (dropDoc (defBody e.st)) && isMk e.df.body && ((mkOf e.df.body).1 == e.nm) && decide (e.N.length = e.df.nl) && decide (e.ps.length = e.df.np + 1) && decide (e.N.Nodup) && decide (e.N.take e.ps.length = e.ps) &&
  (e.ps.all fun x => (defScope e.st).names.lookup x == some .local || (defScope e.st).names.lookup x == some .cell) && noFree (defScope e.st) &&
  (match (defScope e.st).kind with | .function => true | _ => false) && !(defScope e.st).isCoroutine && !(defScope e.st).isGenerator
theorem cent_scope {tb : Tb} {e : Ent} (h : centOk tb e = true) : FnScope e.N e.ps (defScope e.st) ∧ ckC tb ⟨e.N, defScope e.st, fun _ => true⟩ e.df.body (dropDoc (defBody e.st)) = true ∧ e.N.length = e.df.nl ∧ e.ps.length = e.df.np + 1 ∧ isMk e.df.body = true ∧ (mkOf e.df.body).1 = e.nm := by
  unfold centOk at h
  simp only [Bool.and_eq_true, decide_eq_true_eq, Bool.not_eq_true', List.all_eq_true, Bool.or_eq_true, beq_iff_eq] at h
  obtain ⟨⟨⟨⟨⟨⟨⟨⟨⟨⟨⟨h1, hm⟩, hn⟩, h2⟩, h3⟩, h4⟩, h5⟩, h6⟩, h7⟩, h8⟩, h9⟩, h10⟩ := h
  refine ⟨⟨?_, h9, h10, h4, h5, h6, fun y m hy => ?_⟩, h1, h2, h3, hm, hn⟩
  · split at h8
    · assumption
    · cases h8
  · have := List.all_eq_true.mp (show (defScope e.st).names.all _ = true from h7) y m
    rw [hy] at this
    cases this
section
variable {P : Program} {w : World} {K : PySem.W.Frag} {mg : Str → Option Value} {base : Heap}
/-- a method -/
def MF (K : PySem.W.Frag) (es : List Ent) (ms : MShape) : Prop := ∃ e ∈ es, ∃ (q : Str) (C f : Addr) (fd : FuncData), e.nm = ms.f ∧ e.df.rc = some (ms.c, ms.m) ∧ Fun K ms.m q e.st f fd ∧ PySem.W.nsIn K mainGlobals ms.c = some (some (.ref C)) ∧ Cls K C ∧ Meth K C ms.m f ∧
  ∀ (s : Shared) (us : List Value), K.In s.heap → us.length = ms.np + 1 → BindsTo s fd ⟨us, []⟩ (e.ps.zip us)
/-- what the module's names are -/
structure Mg (P : Program) (w : World) (K : PySem.W.Frag) (mg : Str → Option Value) (tb : Tb) (con : List D) (es cs : List Ent) : Prop where
  blt : ∀ x ∈ tb.blts, mg x = none
  con : ∀ (j : Nat) (x : Str), tb.cons[j]? = some x → ∃ v u d, mg x = some u ∧ RelV v u ∧ con[j]? = some d ∧ ∀ H, Rep K H d 0 v [] []
  fns : ∀ e ∈ es, e.df.rc = none → ∃ (f : Addr) (fd : FuncData), Fun K e.nm e.nm e.st f fd ∧ mg e.nm = some (.ref f) ∧
    ∀ sh ∈ tb.shapes, sh.f = e.nm → ∀ (s : Shared) (us ws : List Value), K.In s.heap → us.length = sh.npos → ws.length = sh.ks.length → BindsTo s fd ⟨us, sh.ks.zip ws⟩ (e.ps.zip (selL (us ++ ws) sh.sel))
  cls : ∀ e ∈ cs, ∃ (q : Str) (C f : Addr) (fd : FuncData), Fun K "__init__" q e.st f fd ∧ Mk K C f ∧ mg e.nm = some (.ref C) ∧ PySem.W.nsIn K mainGlobals e.nm = some (some (.ref C)) ∧ Cls K C ∧ (∀ fl ∈ (mkOf e.df.body).2, NoAttr K C fl.1) ∧
    ∀ sh ∈ tb.shapes, sh.f = e.nm → sh.ks = [] ∧ ∀ (s : Shared) (self : Value) (us : List Value), K.In s.heap → us.length = sh.npos → BindsTo s fd ⟨self :: us, []⟩ (e.ps.zip (self :: selL us sh.sel))
  all : ∀ sh ∈ tb.shapes, (∃ e ∈ es, e.nm = sh.f ∧ e.df.rc = none) ∨ ∃ e ∈ cs, e.nm = sh.f
  mths : ∀ ms ∈ tb.meths, MF K es ms
  nes : ∀ ms ∈ tb.nes, MF K es ms ∧ ms.m = "__eq__" ∧ ms.np = 1 ∧
    ∃ C, PySem.W.nsIn K mainGlobals ms.c = some (some (.ref C)) ∧ PySem.W.findIn K (.ref C) "__ne__" = some (some (.builtin "object.__ne__")) ∧ PySem.W.mroIn K C (.type "object") = some true
  iscs : ∀ q ∈ tb.iscs, ∃ C, mg q = some (.ref C) ∧ PySem.W.nsIn K mainGlobals q = some (some (.ref C)) ∧ C8.InsC K C
/-- what holds of a def up to a level -/
def UpTo (P : Program) (w : World) (K : PySem.W.Frag) (mg : Str → Option Value) (base : Heap) (tb : Tb) (con : List D) (defs : List (Str × Df)) (fuel : Nat) (es : List Ent) (k : Nat) : Prop :=
  ∀ e ∈ es, ∀ (x q : Str) (f : Addr) (fd : FuncData), Fun K x q e.st f fd → FnG P w K mg base k f fd e.ps (spD K (callN defs con fuel k e.nm))
/-- what holds of an __init__ up to a level -/
def UpC (P : Program) (w : World) (K : PySem.W.Frag) (mg : Str → Option Value) (base : Heap) (defs : List (Str × Df)) (con : List D) (fuel : Nat) (cs : List Ent) (k : Nat) : Prop :=
  ∀ k', k = k' + 2 → ∀ e ∈ cs, ∀ (q : Str) (C f : Addr) (fd : FuncData), Fun K "__init__" q e.st f fd → Cls K C → PySem.W.nsIn K mainGlobals e.nm = some (some (.ref C)) → (∀ fl ∈ (mkOf e.df.body).2, NoAttr K C fl.1) → FnG P w K mg base (k' + 1) f fd e.ps (spI K C (callN defs con fuel (k' + 2) e.nm))
theorem cl_call {defs : List (Str × Df)} {con : List D} {fuel k : Nat} {f : Str} {df : Df} (h : defs.lookup f = some df) (hm : isMk df.body = true) : callN defs con fuel (k + 2) f = runCl ⟨callN defs con fuel k, con, fuel⟩ df := by
  funext args
  simp only [callN, h, hm, if_true]
theorem cl_two {defs : List (Str × Df)} {con : List D} {fuel k : Nat} {f : Str} {df : Df} {args : List Sl} {r : Sl} {outs : List (Option Sl)} (h : defs.lookup f = some df) (hm : isMk df.body = true) (hc : callN defs con fuel k f args = .ok r outs) : (∃ k', k = k' + 2) ∧ outs = List.replicate args.length none := by
  match k with
  | 0 => cases hc
  | 1 => simp [callN, h, hm] at hc
  | k' + 2 =>
    refine ⟨⟨k', rfl⟩, ?_⟩
    rw [cl_call h hm] at hc
    unfold runCl at hc
    split at hc
    · rename_i hl
      split at hc
      · cases hc; rw [hl]
      · cases hc
    · cases hc
theorem rc_inv {rc : Option (Str × Str)} {args : List Sl} {c : Cr} {r : Sl} {outs : List (Option Sl)} (h : (if rcOk rc args = true then c else Cr.stk) = .ok r outs) : rcOk rc args = true ∧ c = .ok r outs := by
  split at h
  · rename_i h1; exact ⟨h1, h⟩
  · cases h
theorem rcOk_inv {c m : Str} : ∀ {args : List Sl}, rcOk (some (c, m)) args = true → ∃ fs n rest, args = (.ins c fs, n) :: rest ∧ fs.lookup m = none
  | [], h => by simp [rcOk] at h
  | (d, n) :: rest, h => by
    cases d <;> simp only [rcOk, Bool.false_eq_true] at h
    rename_i c' fs
    simp only [Bool.and_eq_true, decide_eq_true_eq, Option.isNone_iff_eq_none] at h
    exact ⟨fs, n, rest, by rw [h.1], h.2⟩
theorem mcall_of {tb : Tb} {con : List D} {defs : List (Str × Df)} {fuel k : Nat} {es : List Ent} {ms : MShape} {X : Cx} (hP : X.prog = P) (hw : X.w = w) (hK : X.K = K) (hmg : X.mg = mg) (hbase : X.base = base) (hE : ∀ e ∈ es, entOk tb e = true ∧ defs.lookup e.nm = some e.df) (U : UpTo P w K mg base tb con defs fuel es k)
    (h : MF K es ms) (hr : Room k X.A) (hr1 : Room k X.A.in1) : MCallOk X ⟨callN defs con fuel k, con, fuel⟩ ms := by
  subst hP hw hK hmg hbase
  obtain ⟨e, he, q, C, f, fd, hn, hrc, F, hin, hc, hm, hb⟩ := h
  refine ⟨C, f, fd, e.ps, k, hin, hc, hm, hr, hr1, ?_, hb, fun args r outs hcall => ?_⟩
  · show FnG _ _ _ _ _ k f fd e.ps (spD X.K (callN defs con fuel k ms.f))
    rw [← hn]
    exact U e he _ q f fd F
  · obtain ⟨hok, hlk⟩ := hE e he
    have hcall : callN defs con fuel k ms.f args = .ok r outs := hcall
    cases k with
    | zero => cases hcall
    | succ k =>
      rw [← hn] at hcall
      simp only [callN, hlk, ent_mk hok, Bool.false_eq_true, if_false] at hcall
      obtain ⟨h1, _⟩ := rc_inv hcall
      rw [hrc] at h1
      exact rcOk_inv h1
theorem xok_def {tb : Tb} {con : List D} {defs : List (Str × Df)} {fuel k : Nat} {es cs : List Ent} {N ps : List Str} {nm : Str} {sc : Scope} {f : Addr} {cdv : Value} {A : Around} {outer : List PySem.Env} {s : Shared} {H : Hp} {E : XK} (hM : Mg P w K mg tb con es cs) (hE : ∀ e ∈ es, entOk tb e = true ∧ defs.lookup e.nm = some e.df) (hC : ∀ e ∈ cs, centOk tb e = true ∧ defs.lookup e.nm = some e.df) (U : UpTo P w K mg base tb con defs fuel es k) (UC : UpC P w K mg base defs con fuel cs k) (S : FnScope N ps sc)
    (hr : Room k (A.deeper (PyProof.Rows.envOfC nm sc s.heap.objs.size f cdv))) (hr1 : Room k (A.deeper (PyProof.Rows.envOfC nm sc s.heap.objs.size f cdv)).in1) (hg : A.guards = some []) : XOk (cxOf CX0 P w K mg base N nm sc f cdv A outer s H E) tb ⟨callN defs con fuel k, con, fuel⟩ ⟨N, sc, fun _ => true⟩ where
  calm := rfl
  nd := S.nd
  hN := rfl
  hsc := rfl
  hfn := fun _ _ => rfl
  gd := hg
  hu := by have := hr.un; show (A.deeper _).units + 200 < cLine; omega
  hd := hr.hd
  blt := hM.blt
  con := hM.con
  calls := fun sh m => by
    rcases hM.all sh m with ⟨e', he', hn, hrc⟩ | ⟨e', he', hn⟩
    · obtain ⟨f', fd', F, hm, hb⟩ := hM.fns e' he' hrc
      refine ⟨.inl ⟨f', fd', e'.ps, k, by rw [← hn]; exact hm, F.kp, hr, ?_, fun s us ws hK h1 h2 => hb sh m hn.symm s us ws hK h1 h2⟩⟩
      rw [← hn]
      exact U e' he' _ _ f' fd' F
    · obtain ⟨q, C, f', fd', F, M, hm, hin, hc, hna, hb⟩ := hM.cls e' he'
      obtain ⟨hok, hlk⟩ := hC e' he'
      obtain ⟨_, _, _, _, hmk, _⟩ := cent_scope hok
      obtain ⟨hks, hbb⟩ := hb sh m hn.symm
      refine ⟨.inr ⟨C, f', fd', e'.ps, by rw [← hn]; exact hm, M, hks, ?_, ?_, fun s self us hK h1 => hbb s self us hK h1⟩⟩
      · intro args r outs h
        rw [← hn] at h
        exact (cl_two hlk hmk h).2
      · intro args r outs h
        rw [← hn] at h ⊢
        obtain ⟨⟨k', rfl⟩, _⟩ := cl_two hlk hmk h
        exact ⟨k' + 1, hr, UC k' rfl e' he' q C f' fd' F hc hin hna⟩
  mcalls := fun ms m => mcall_of rfl rfl rfl rfl rfl hE U (hM.mths ms m) hr hr1
  nes := fun ms m => by
    obtain ⟨h1, h2, h3, h4⟩ := hM.nes ms m
    exact ⟨mcall_of rfl rfl rfl rfl rfl hE U h1 hr hr1, h2, h3, h4⟩
  iscs := hM.iscs
theorem room_in1 {k : Nat} {A : Around} (r : Room (k + 1) A) (env : PySem.Env) : Room k (A.deeper env).in1 :=
  ⟨r.hd, by have := r.dp; show A.depth + 1 + 3 * k + 5 < _; omega, by have := r.un; show A.units + 3 + 1 + 16 * k + 200 < _; omega⟩
theorem up_zero {tb : Tb} {con : List D} {defs : List (Str × Df)} {fuel : Nat} {es : List Ent} : UpTo P w K mg base tb con defs fuel es 0 := fun e he x q f fd F =>
  ⟨fun vs H Q E ⟨args, fp, fz, r, outs, _, _, h, _⟩ => (by cases h), fun A outer s H args us vs Q E _ _ _ _ _ ⟨args', fp, fz, r, outs, _, _, h, _⟩ => (by cases h)⟩
theorem spD_len {call : List Sl → Cr} {n : Nat} (hc : ∀ args r outs, call args = .ok r outs → args.length = n) : ∀ (vs : List V) (H : Hp) (Q : VK) (E : XK), spD K call vs H Q E → vs.length = n := fun vs H Q E ⟨args, fp, fz, r, outs, s, _, h, _⟩ => by
  have h1 := SL.len s
  have h2 := hc args r outs h
  simpa [h2] using h1
theorem run_len {cf : Cf} {df : Df} {args : List Sl} {r : Sl} {outs : List (Option Sl)} (h : runDf cf df args = .ok r outs) : args.length = df.np := by
  unfold runDf at h
  split at h
  · assumption
  · cases h
theorem up_succ {tb : Tb} {con : List D} {defs : List (Str × Df)} {fuel k : Nat} {es cs : List Ent} (hM : Mg P w K mg tb con es cs) (hE : ∀ e ∈ es, entOk tb e = true ∧ defs.lookup e.nm = some e.df) (hC : ∀ e ∈ cs, centOk tb e = true ∧ defs.lookup e.nm = some e.df) (UC : UpC P w K mg base defs con fuel cs k) (U : UpTo P w K mg base tb con defs fuel es k) : UpTo P w K mg base tb con defs fuel es (k + 1) := by
  intro e he xn q f fd F
  obtain ⟨hok, hlk⟩ := hE e he
  obtain ⟨S, hck, hnl, hnp⟩ := ent_scope hok
  have hcall : callN defs con fuel (k + 1) e.nm = fun args => if rcOk e.df.rc args = true then runDf ⟨callN defs con fuel k, con, fuel⟩ e.df args else .stk := by
    funext args
    simp only [callN, hlk, ent_mk hok, Bool.false_eq_true, if_false]
  rw [hcall]
  have hlen : ∀ vs H Q E, spD K (fun args => if rcOk e.df.rc args = true then runDf ⟨callN defs con fuel k, con, fuel⟩ e.df args else .stk) vs H Q E → vs.length = e.ps.length := by rw [hnp]; exact spD_len fun args r outs h => run_len (rc_inv h).2
  obtain ⟨oc, od, kV, doc, pm, an, cdv, ct, osl, hfd, lk, hcd⟩ := F.ex
  refine ⟨hlen, fun A outer s H args us vs Q E room hg env0 hb rv hsp => ?_⟩
  rw [hfd] at hb
  have inK : K.In s.heap := env0.mod.kin.keeps fun b o h => (env0.bs b o h).1
  have noL : s.heap.NoLimit := env0.mod.nolimit.keeps fun b o h => (env0.bs b o h).1
  have kinds : ∀ y ∈ e.ps.zip us, (defScope e.st).names.lookup y.1 = some .local ∨ ((defScope e.st).names.lookup y.1 = some .cell ∧ ((cellsFrom (s.heap.objs.size + 1) (defScope e.st).names []).lookup y.1).isSome = true) := by
    rintro ⟨n, v⟩ hy
    exact (S.par n (List.of_mem_zip hy).1).imp id fun q => ⟨q, PySem.W.cellsFrom_some _ _ _ (.inl q)⟩
  rw [hfd] at lk
  refine codeAny_call_function room.depth (inK _ _ lk) rfl S.co S.gen rfl (PySem.W.codeRec_of inK hcd) (hb _ _ _ _ ?_)
  refine wpAny_newFunctionEnv_cells S.kind kinds fun en hen s1 x => ?_
  subst hen
  refine ⟨noL.keeps x.toInCall.keep, codeAny_func ?_⟩
  have ok := xok_def (nm := q) (outer := outer) (s := s) (H := H) (E := E) (f := f) (cdv := cdv) hM hE hC U UC S (room.deeper _) (room_in1 room _) hg
  have body := doc_drop ((st_ok (cf := ⟨callN defs con fuel k, con, fuel⟩) (kp := e.df.io) ok (passes_of rfl) S.kind e.df.body).2 _ hck)
  have I := inv_start (CX := CX0) (E := E) (f := f) (cd := cdv) (qual := q) S room.hd env0 (hlen _ _ _ _ hsp) rv x
  obtain ⟨as, fp, fz, r, outs, sl, dj, hrun0, fin⟩ := hsp
  have hrun := (rc_inv hrun0).2
  clear hrun0
  have hal := run_len hrun
  have hvl : vs.length = e.df.np := by
    have := SL.len sl
    simpa [hal] using this
  unfold runDf at hrun
  rw [if_pos hal] at hrun
  have pads : SL K H (start e.N vs) (as.map some ++ List.replicate (e.df.nl - e.df.np) none) fp fz := by
    have := SL.pad (e.df.nl - e.df.np) sl
    unfold L2.start
    rw [hnl, hvl]
    exact this
  have hnn : e.df.np ≤ e.df.nl := by
    have := congrArg List.length S.pre
    rw [List.length_take] at this
    omega
  have hio : ∀ {σ' : St}, Kp e.df.io (start e.N vs) σ' → ∀ i ∈ e.df.io, i < e.df.np → σ'[i]? = (vs.map some)[i]? := by
    intro σ' hk i m hi
    rw [hk i m]
    unfold L2.start
    rw [List.getElem?_append_left (by simpa [hvl] using hi)]
  have go : tSI K ⟨callN defs con fuel k, con, fuel⟩ e.df.io e.df.body { nx := fun _ H' => Q .non H', rt := Q } (start e.N vs) H := by
    split at hrun
    · rename_i v ρ' he
      cases hrun
      refine ⟨_, fp, fz, .rt r, ρ', pads, dj, he, fun u σ' H' f1 z1 f z ru s d x k => ?_⟩
      obtain ⟨f2, z2, so, l⟩ := outs_ok2 s hvl (hio k)
      have L := (Less.refl f1 z1).app l
      exact fin u H' f1 z1 f2 z2 ru so (L.disj d) (x.less L)
    · rename_i ρ' he
      cases hrun
      refine ⟨_, fp, fz, .nx, ρ', pads, dj, he, fun σ' H' f z s d x k => ?_⟩
      obtain ⟨f2, z2, so, l⟩ := outs_ok2 s hvl (hio k)
      exact fin .non H' [] [] f2 z2 (by simp [Rep]) so (l.disj d) (x.less l)
    · cases hrun
    · cases hrun
    · cases hrun
  refine wpAny_mono (body.run [] s1 (start e.N vs) H _ I go) (fun fl s' hs => ?_) fun er s' h => h
  have close : ∀ {σ' : St} {H' : Hp} {v : V} {u : Value}, L2.Inv (cxOf CX0 P w K mg base e.N q (defScope e.st) f cdv A outer s H E) [] σ' H' s' → RelV v u → Q v H' → CE outer P w H s Q u s' := by
    intro σ' H' v u J ru q
    exact ⟨v, H', J.os, J.bare, J.base, J.hok, ru, q⟩
  cases fl with
  | ret u =>
    obtain ⟨v, σ', H', J, ru, q⟩ := hs
    exact close J ru q
  | next =>
    obtain ⟨σ', H', J, q⟩ := hs
    exact close (v := .non) (u := .none) J rfl q
  | brk => exact hs.elim fun _ h => h.elim fun _ h => h.2.elim
  | cont => exact hs.elim fun _ h => h.elim fun _ h => h.2.elim
theorem clrun_len {cf : Cf} {df : Df} {args : List Sl} {r : Sl} {outs : List (Option Sl)} (h : runCl cf df args = .ok r outs) : args.length = df.np := by
  unfold runCl at h
  split at h
  · assumption
  · cases h
theorem up_cls {tb : Tb} {con : List D} {defs : List (Str × Df)} {fuel k : Nat} {es cs : List Ent} (hM : Mg P w K mg tb con es cs) (hE : ∀ e ∈ es, entOk tb e = true ∧ defs.lookup e.nm = some e.df) (hC : ∀ e ∈ cs, centOk tb e = true ∧ defs.lookup e.nm = some e.df) (UC : UpC P w K mg base defs con fuel cs k) (U : UpTo P w K mg base tb con defs fuel es k) : UpC P w K mg base defs con fuel cs (k + 2) := by
  intro k' hk e he q C f fd F hcl hin hna
  have hk' : k' = k := by omega
  subst hk'
  obtain ⟨hok, hlk⟩ := hC e he
  obtain ⟨S, hck, hnl, hnp, hmk, hnm⟩ := cent_scope hok
  rw [cl_call hlk hmk]
  have hlen : ∀ vs H Q E, spI K C (runCl ⟨callN defs con fuel k', con, fuel⟩ e.df) vs H Q E → vs.length = e.ps.length := by
    rintro vs H Q E ⟨x, dx, avs, args, fp, fz, r, outs, rfl, _, sl, _, _, _, hc, _⟩
    have h1 := SL.len sl
    have h2 := clrun_len hc
    rw [List.length_map, List.length_map] at h1
    rw [hnp, List.length_cons]; omega
  obtain ⟨oc, od, kV, doc, pm, an, cdv, ct, osl, hfd, lk, hcd⟩ := F.ex
  refine ⟨hlen, fun A outer s H args us vs Q E room hg env0 hb rv hsp => ?_⟩
  rw [hfd] at hb
  have inK : K.In s.heap := env0.mod.kin.keeps fun b o h => (env0.bs b o h).1
  have noL : s.heap.NoLimit := env0.mod.nolimit.keeps fun b o h => (env0.bs b o h).1
  have kinds : ∀ y ∈ e.ps.zip us, (defScope e.st).names.lookup y.1 = some .local ∨ ((defScope e.st).names.lookup y.1 = some .cell ∧ ((cellsFrom (s.heap.objs.size + 1) (defScope e.st).names []).lookup y.1).isSome = true) := by
    rintro ⟨n, v⟩ hy
    exact (S.par n (List.of_mem_zip hy).1).imp id fun q => ⟨q, PySem.W.cellsFrom_some _ _ _ (.inl q)⟩
  rw [hfd] at lk
  refine codeAny_call_function room.depth (inK _ _ lk) rfl S.co S.gen rfl (PySem.W.codeRec_of inK hcd) (hb _ _ _ _ ?_)
  refine wpAny_newFunctionEnv_cells S.kind kinds fun en hen s1 x => ?_
  subst hen
  refine ⟨noL.keeps x.toInCall.keep, codeAny_func ?_⟩
  have ok := xok_def (nm := q) (outer := outer) (s := s) (H := H) (E := E) (f := f) (cdv := cdv) hM hE hC U UC S (room.deeper _) (room_in1 room _) hg
  have body0 := cls_pss (cf := ⟨callN defs con fuel k', con, fuel⟩) ok (passes_of rfl) S.kind e.df.body _ hck
  have I := inv_start (CX := CX0) (E := E) (f := f) (cd := cdv) (qual := q) S room.hd env0 (hlen _ _ _ _ hsp) rv x
  obtain ⟨xa, dx, avs, as, fp, fz, r, outs, hvs, hx, sl, dj, n1, n2, hrun, fin⟩ := hsp
  subst hvs
  have hal := clrun_len hrun
  have hvl : avs.length = e.df.np := by
    have := SL.len sl
    simpa [hal] using this
  unfold runCl at hrun
  rw [if_pos hal] at hrun
  split at hrun
  · rename_i v ρ' he2
    cases hrun
    have pads : SL K H (start e.N (.ref xa :: avs)) (none :: (as.map some ++ List.replicate (e.df.nl - e.df.np - 1) none)) fp fz := by
      have := SL.pad (e.df.nl - e.df.np - 1) sl
      unfold L2.start
      have e1 : e.N.length - (V.ref xa :: avs).length = e.df.nl - e.df.np - 1 := by rw [hnl, List.length_cons, hvl]; omega
      rw [e1]
      exact this
    have go : tSC K ⟨callN defs con fuel k', con, fuel⟩ e.df.body { nx := fun _ H' => Q .non H', rt := Q } (start e.N (.ref xa :: avs)) H := by
      refine ⟨_, fp, fz, r, ρ', xa, C, dx, pads, dj, rfl, hx, n1, n2, hcl, by rw [hnm]; exact hin, hna, he2, fun σ' H' rr st => fin H' rr st⟩
    have body : PSs (cxOf CX0 P w K mg base e.N q (defScope e.st) f cdv A outer s H E) (defBody e.st) (tSC K ⟨callN defs con fuel k', con, fuel⟩ e.df.body) := doc_dropC body0
    refine wpAny_mono (body.run [] s1 (start e.N (.ref xa :: avs)) H _ I go) (fun fl s' hs => ?_) fun er s' h => h
    have close : ∀ {σ' : St} {H' : Hp} {v : V} {u : Value}, L2.Inv (cxOf CX0 P w K mg base e.N q (defScope e.st) f cdv A outer s H E) [] σ' H' s' → RelV v u → Q v H' → CE outer P w H s Q u s' := by
      intro σ' H' v u J ru q
      exact ⟨v, H', J.os, J.bare, J.base, J.hok, ru, q⟩
    cases fl with
    | ret u =>
      obtain ⟨v, σ', H', J, ru, q⟩ := hs
      exact close J ru q
    | next =>
      obtain ⟨σ', H', J, q⟩ := hs
      exact close (v := .non) (u := .none) J rfl q
    | brk => exact hs.elim fun _ h => h.elim fun _ h => h.2.elim
    | cont => exact hs.elim fun _ h => h.elim fun _ h => h.2.elim
  · cases hrun
end
end Pi
/-! Pi24: the law's call; the goal that the head leaves. -/
namespace Pi
open PySem L2 PySem.Spec PyProof.Rows
section
variable {P : Program} {w : World} {K : PySem.W.Frag} {mg mb : Str → Option Value} {k : Nat} {fa a : Addr} {fd : FuncData} {x : Str} {sp : Sp} {s₁ : Shared} {vs : List Value} {ns : List Int}
/-- the call, seen from an abstract heap Hs that tracks the script at most -/
theorem call_from {Hs : Hp} (KX : K.In s₁.heap) (hns : s₁.heap.Ns mainGlobals mg) (hb : s₁.heap.Ns builtinsNs mb) (hbb : ∀ x : Str, x ≠ "__name__" → mb x = bootBuiltins x) (hlim : s₁.heap.NoLimit) (hg : s₁.gens = #[])
    (ha : s₁.heap.get? a = some { cls := .type "list", data := .seq vs.toArray }) (hr : Room k callerA) (F : ∀ base : Heap, K.In base → base.Ns mainGlobals mg → FnG P w K mg base k fa fd [x] sp) (hbind : ∀ (s : Shared) (u : Value), BindsTo s fd ⟨[u], []⟩ [(x, u)])
    (hO : Only Hs) (hsp : sp [.ref a] Hs (fun v _ => v = .bl true) fun _ _ _ => False) (hok : HOk P w Hs s₁.heap) (only : ∀ b, Hs b ≠ none → b = a) (out : Hs a ≠ none → K.lookup a = none) :
    codeAny (model P w) callerA (.call (.ref fa) ⟨[.ref a], []⟩) (fun r s' => r = .ok (.ret (.bool true)) ∧ OldK s₁.heap s'.heap ∧ s'.os = s₁.os ∧ AllBare s'.gens) s₁ := by
  have free : ∀ {b : Addr} {o : Obj}, s₁.heap.get? b = some o → (∀ es ep, o.data = .dict es ep → Hs b = none) ∧ (K.lookup b = some o → Hs b = none) := by
    intro b o hbo
    refine ⟨fun es ep hd => ?_, fun hl => ?_⟩
    · refine Classical.byContradiction fun hn => ?_
      have q := only b hn
      rw [q, ha] at hbo
      cases hbo
      exact nomatch hd
    · refine Classical.byContradiction fun hn => ?_
      have q := only b hn
      subst q
      rw [out hn] at hl
      cases hl
  have names : ∀ {b : Addr} {m : Str → Option Value}, s₁.heap.Ns b m → (hidT s₁.heap Hs).Ns b m := by
    rintro b m ⟨o, es, ep, h1, h2, h3⟩
    exact ⟨o, es, ep, hidT_get h1 ((free h1).1 es ep h2), h2, h3⟩
  have kin : K.In (hidT s₁.heap Hs) := fun b o hl => hidT_get (KX b o hl) ((free (KX b o hl)).2 hl)
  obtain ⟨mc, lim1, lim2⟩ := hlim
  have modl : Mod K mg (hidT s₁.heap Hs) := ⟨kin, names hns, ⟨mb, names hb, hbb⟩, ⟨mc, names lim1, lim2⟩⟩
  have env0 : Env0 P w K mg (hidT s₁.heap Hs) callerA [] s₁ Hs := {
    frames := rfl
    mod := modl
    bs := fun b o h => of_hidT h
    bsz := Nat.le_of_eq (hidT_size _ _)
    funs := trivial
    frf := fun b m => absurd m List.not_mem_nil
    hok := hok
    bare := .of_eq hg }
  have run := (F _ kin (names hns)).run callerA [] s₁ Hs ⟨[.ref a], []⟩ [.ref a] [.ref a] _ _ hr rfl env0 (hbind s₁ (.ref a)) (.cons rfl .nil) hsp
  refine codeAny_mono run fun r s' h => ?_
  rcases r with er | fl
  · exact h.elim
  · cases fl with
    | ret u =>
      obtain ⟨v, H', os, bare, un, hok', ru, rfl⟩ := h
      have hu : u = Value.bool true := ru
      subst hu
      refine ⟨rfl, OldK.of_keep fun b o hbo => ?_, os, bare⟩
      rcases hO b with z | ⟨ob, xs, z⟩
      · exact un.keep b o hbo z (fun m => absurd m List.not_mem_nil) (fun m => absurd m List.not_mem_nil)
      · have h1 := (hok b _ z).1
        have h2 := (hok' b _ (un.frzs b ob _ z)).1
        rw [hbo] at h1
        cases h1
        exact h2
    | next => exact h.elim
    | brk => exact h.elim
    | cont => exact h.elim
theorem call_law (KX : K.In s₁.heap) (hns : s₁.heap.Ns mainGlobals mg) (hb : s₁.heap.Ns builtinsNs mb) (hbb : ∀ x : Str, x ≠ "__name__" → mb x = bootBuiltins x) (hlim : s₁.heap.NoLimit) (hg : s₁.gens = #[])
    (ha : s₁.heap.get? a = some { cls := .type "list", data := .seq vs.toArray }) (hi : IntsAre vs ns) (hl : ns.length ≤ sizeLine) (hr : Room k callerA) (F : ∀ base : Heap, K.In base → base.Ns mainGlobals mg → FnG P w K mg base k fa fd [x] sp) (hbind : ∀ (s : Shared) (u : Value), BindsTo s fd ⟨[u], []⟩ [(x, u)])
    (hsp : ∀ Hs : Hp, Only Hs → SqL K Hs a (ns.map V.int) → sp [.ref a] Hs (fun v _ => v = .bl true) fun _ _ _ => False) :
    codeAny (model P w) callerA (.call (.ref fa) ⟨[.ref a], []⟩) (fun r s' => r = .ok (.ret (.bool true)) ∧ OldK s₁.heap s'.heap ∧ s'.os = s₁.os ∧ AllBare s'.gens) s₁ := by
  have items : Vals (ns.map V.int) vs := vals_ints hi
  by_cases hk : K.lookup a = none
  · have o1 : Only (fun b => if b = a then some (.frz { cls := .type "list", data := .seq vs.toArray } (.lst (ns.map V.int))) else none) := fun b => by
      by_cases hba : b = a
      · exact .inr ⟨_, _, if_pos hba⟩
      · exact .inl (if_neg hba)
    have s1 : SqL K (fun b => if b = a then some (.frz { cls := .type "list", data := .seq vs.toArray } (.lst (ns.map V.int))) else none) a (ns.map V.int) := .inl (.inr ⟨_, if_pos rfl⟩)
    refine call_from KX hns hb hbb hlim hg ha hr F hbind o1 (hsp _ o1 s1) (fun b u z => ?_) (fun b z => Classical.byContradiction fun hba => z (if_neg hba)) fun _ => hk
    have hba : b = a := Classical.byContradiction fun hba => by
      have z' := (if_neg hba).symm.trans z
      cases z'
    subst hba
    have z' := (if_pos rfl).symm.trans z
    cases z'
    exact ⟨ha, by simpa using hl, vs, _, items, ha⟩
  · obtain ⟨o, ho⟩ := Option.ne_none_iff_exists'.mp hk
    have h2 := KX a o ho
    rw [ha] at h2
    cases h2
    have o1 : Only (fun _ => none) := fun b => .inl rfl
    refine call_from KX hns hb hbb hlim hg ha hr F hbind o1 (hsp _ o1 (.inr ⟨_, vs.toArray, _, ho, rfl, rfl, rfl, ?_, by simpa using items⟩)) (fun b u z => nomatch z) (fun b z => absurd rfl z) fun z => absurd rfl z
    rw [List.size_toArray, hi.length]; exact hl
end
/-- the goal that the head leaves -/
theorem walkG {l : PySem.W.OpenLaw} {n k : Nat} {q : Program} {loose : List Str} {XP : (Str → Option Value) → Heap → Prop} {YP : World → Heap → Prop} {d : DefRec} {K : Params → PySem.W.Frag} {sp : World → Sp} {x : Str} (hn : l.most = some n) (hn2 : n ≤ sizeLine) (hdf : d.params.defaults = []) (hr : Room k callerA) (hY : ∀ (w : World) (h : Heap), YP w h → (K w.params).In h)
    (F : ∀ (w : World) (mg : Str → Option Value) (fa : Addr) (h : Heap), (K w.params).In h → h.Ns mainGlobals mg → mg d.name = some (.ref fa) → ∃ fd : FuncData, (∀ (s : Shared) (u : Value), BindsTo s fd ⟨[u], []⟩ [(x, u)]) ∧ ∀ base : Heap, (K w.params).In base → base.Ns mainGlobals mg → FnG l.prog w (K w.params) mg base k fa fd [x] (sp w))
    (hsp : ∀ (w : World) (H : Hp) (a : Addr) (ns : List Int), ns.length ≤ n → Only H → SqL (K w.params) H a (ns.map V.int) → sp w [.ref a] H (fun v _ => v = .bl true) fun _ _ _ => False) :
    PySem.W.WalkO q loose XP YP l.row.toRowW d [] (fun f vs => PySem.call f vs) := by
  refine Att.attach_call hn hdf fun w s₀ s₁ mg mb fa o pm cd doc a vs ns G Y ho hd hcd hmg hobj hints hlen hg => ?_
  obtain ⟨fd, bnd, prom⟩ := F w mg fa _ (hY w _ Y) G.T.g hmg
  exact call_law (hY w _ Y) G.T.g G.T.b G.T.builtins G.T.nolimit hg hobj hints (Nat.le_trans hlen hn2) hr prom bnd fun Hs h1 h2 => hsp w Hs a ns hlen h1 h2
/-- the law's promise: the evaluator's run is true at every script -/
theorem spD_law {K : PySem.W.Frag} {call : List Sl → Cr} {a : Addr} {ns : List Int} {H : Hp} (hO : Only H) (hS : SqL K H a (ns.map V.int)) (hrun : ∃ outs, call [(.scr ns, 0)] = .ok (.bl true, 0) outs) : spD K call [.ref a] H (fun v _ => v = .bl true) fun _ _ _ => False := by
  obtain ⟨outs, h⟩ := hrun
  have hrep : ∃ z, Rep K H (.scr ns) 0 (.ref a) [] z := by
    rcases hS with r | r
    · exact ⟨[a], a, rfl, rfl, .inl ⟨r, rfl⟩⟩
    · exact ⟨[], a, rfl, rfl, .inr ⟨r, rfl⟩⟩
  obtain ⟨z, hz⟩ := hrep
  refine ⟨[(.scr ns, 0)], [], z ++ [], (.bl true, 0), outs, ⟨.ref a, [], [], z, [], rfl, rfl, rfl, hz, rfl, rfl⟩, ⟨List.nodup_nil, fun _ m => absurd m List.not_mem_nil⟩, h, fun v H' f1 z1 f2 z2 r _ _ _ => ?_⟩
  exact r.toBl
end Pi
/-! Pi25: what a law's own part takes. -/
namespace Pi
open PySem L2 PySem.Spec PyProof.Rows
/-- the turns of while loops -/
def Fu : Nat := 10 ^ 60
abbrev Bds (K : PySem.W.Frag) (fd : FuncData) (ps : List Str) (sh : Shape) : Prop := ∀ (s : Shared) (us ws : List Value), K.In s.heap → us.length = sh.npos → ws.length = sh.ks.length → BindsTo s fd ⟨us, sh.ks.zip ws⟩ (ps.zip (selL (us ++ ws) sh.sel))
theorem bds_of {K : PySem.W.Frag} {fd : FuncData} {ps : List Str} {L l : List Shape} {nm : Str} (h : ∀ sh ∈ L, Bds K fd ps sh) (e : (l.filter fun sh => sh.f == nm) = L) : ∀ sh ∈ l, sh.f = nm → Bds K fd ps sh := by
  subst e
  exact fun sh m hn => h sh (List.mem_filter.mpr ⟨m, by simpa using hn⟩)
abbrev BdC (K : PySem.W.Frag) (fd : FuncData) (ps : List Str) (sh : Shape) : Prop := sh.ks = [] ∧ ∀ (s : Shared) (self : Value) (us : List Value), K.In s.heap → us.length = sh.npos → BindsTo s fd ⟨self :: us, []⟩ (ps.zip (self :: selL us sh.sel))
theorem shp_of {P : Shape → Prop} {L l : List Shape} {nm : Str} (h : ∀ sh ∈ L, P sh) (e : (l.filter fun sh => sh.f == nm) = L) : ∀ sh ∈ l, sh.f = nm → P sh := by
  subst e
  exact fun sh m hn => h sh (List.mem_filter.mpr ⟨m, by simpa using hn⟩)
def ConsF (K : PySem.W.Frag) (mg : Str → Option Value) : List Str → List D → Prop
  | [], [] => True
  | x :: xs, d :: ds => (∃ v u, mg x = some u ∧ RelV v u ∧ ∀ H, Rep K H d 0 v [] []) ∧ ConsF K mg xs ds
  | _, _ => False
theorem cons_ok {K : PySem.W.Frag} {mg : Str → Option Value} : ∀ (L : List Str) (M : List D), ConsF K mg L M → ∀ (j : Nat) (x : Str), L[j]? = some x → ∃ v u d, mg x = some u ∧ RelV v u ∧ M[j]? = some d ∧ ∀ H, Rep K H d 0 v [] []
  | [], [], _, j, x, h => by simp at h
  | y :: L, d :: M, hc, 0, x, h => by
    obtain ⟨⟨v, u, a, b, c⟩, _⟩ := hc
    have : y = x := by simpa using h
    subst this
    exact ⟨v, u, d, a, b, rfl, c⟩
  | y :: L, d :: M, hc, j + 1, x, h => cons_ok L M hc.2 j x (by simpa using h)
  | [], _ :: _, hc, _, _, _ => hc.elim
  | _ :: _, [], hc, _, _, _ => hc.elim
theorem levels2 {P : Program} {w : World} {K : PySem.W.Frag} {mg : Str → Option Value} {base : Heap} {tb : Tb} {con : List D} {defs : List (Str × Df)} {fuel : Nat} {es cs : List Ent} (hM : Mg P w K mg tb con es cs) (hE : ∀ e ∈ es, entOk tb e = true ∧ defs.lookup e.nm = some e.df) (hC : ∀ e ∈ cs, centOk tb e = true ∧ defs.lookup e.nm = some e.df) :
    ∀ k, (UpTo P w K mg base tb con defs fuel es k ∧ UpC P w K mg base defs con fuel cs k) ∧ (UpTo P w K mg base tb con defs fuel es (k + 1) ∧ UpC P w K mg base defs con fuel cs (k + 1))
  | 0 => ⟨⟨up_zero, fun k' h => by omega⟩, ⟨up_succ hM hE hC (fun k' h => by omega) up_zero, fun k' h => by omega⟩⟩
  | k + 1 => by
    obtain ⟨⟨a, b⟩, c, d⟩ := levels2 hM hE hC k
    exact ⟨⟨c, d⟩, up_succ hM hE hC d c, up_cls hM hE hC b a⟩
theorem levels {P : Program} {w : World} {K : PySem.W.Frag} {mg : Str → Option Value} {base : Heap} {tb : Tb} {con : List D} {defs : List (Str × Df)} {fuel : Nat} {es cs : List Ent} (hM : Mg P w K mg tb con es cs) (hE : ∀ e ∈ es, entOk tb e = true ∧ defs.lookup e.nm = some e.df) (hC : ∀ e ∈ cs, centOk tb e = true ∧ defs.lookup e.nm = some e.df) (k : Nat) : UpTo P w K mg base tb con defs fuel es k := (levels2 hM hE hC k).1.1
theorem lookup_nd : ∀ {es : List Ent}, (es.map (·.nm)).Nodup → ∀ e ∈ es, (es.map fun e => (e.nm, e.df)).lookup e.nm = some e.df
  | [], _, e, m => absurd m List.not_mem_nil
  | a :: es, h, e, m => by
    have h2 := List.nodup_cons.mp h
    simp only [List.map_cons, List.lookup_cons]
    by_cases hn : e.nm = a.nm
    · have : e = a := by
        rcases List.mem_cons.mp m with rfl | m
        · rfl
        · exact absurd (by show a.nm ∈ es.map (·.nm); rw [← hn]; exact List.mem_map_of_mem m) h2.1
      subst this
      simp
    · have hb : (e.nm == a.nm) = false := by simpa using hn
      rw [hb]
      exact lookup_nd h2.2 e ((List.mem_cons.mp m).resolve_left fun q => hn (by rw [q]))
theorem walkL {l : PySem.W.OpenLaw} {n k : Nat} {q : Program} {loose : List Str} {XP : (Str → Option Value) → Heap → Prop} {YP : World → Heap → Prop} {d : DefRec} {K : Params → PySem.W.Frag} {x : Str} {call : List Sl → Cr} (hn : l.most = some n) (hn2 : n ≤ sizeLine) (hdf : d.params.defaults = []) (hr : Room k callerA) (hY : ∀ (w : World) (h : Heap), YP w h → (K w.params).In h)
    (F : ∀ (w : World) (mg : Str → Option Value) (fa : Addr) (h : Heap), (K w.params).In h → h.Ns mainGlobals mg → mg d.name = some (.ref fa) → ∃ fd : FuncData, (∀ (s : Shared) (u : Value), BindsTo s fd ⟨[u], []⟩ [(x, u)]) ∧ ∀ base : Heap, (K w.params).In base → base.Ns mainGlobals mg → FnG l.prog w (K w.params) mg base k fa fd [x] (spD (K w.params) call))
    (hrun : ∀ ns : List Int, ns.length ≤ n → ∃ outs, call [(.scr ns, 0)] = .ok (.bl true, 0) outs) : PySem.W.WalkO q loose XP YP l.row.toRowW d [] (fun f vs => PySem.call f vs) :=
  walkG (sp := fun w => spD (K w.params) call) hn hn2 hdf hr hY F fun w H a ns hl hO hS => spD_law hO hS (hrun ns hl)
end Pi
/-! Pi26: equations of the evaluator, for simp. -/
namespace Pi
open PySem L2
section
variable {i j : Int} {a b : Str} {l m : List D}
theorem addD_i : addD (.int i) (.int j) = some (.int (i + j)) := rfl
theorem subD_i : subD (.int i) (.int j) = some (.int (i - j)) := rfl
theorem mulD_i (h : mulOk i j = true) : mulD (.int i) (.int j) = some (.int (i * j)) := by simp [mulD, h]
theorem fdivD_i (h : divOk j = true) : fdivD (.int i) (.int j) = some (.int (i / j)) := by simp [fdivD, h]
theorem modD_i (h : 0 < j) : modD (.int i) (.int j) = some (.int (i % j)) := by simp [modD, h]
theorem op2_add {x y : D} : op2D .Add x y = addD x y := rfl
theorem op2_sub {x y : D} : op2D .Sub x y = subD x y := rfl
theorem op2_mul {x y : D} : op2D .Mult x y = mulD x y := rfl
theorem op2_fdiv {x y : D} : op2D .FloorDiv x y = fdivD x y := rfl
theorem op2_mod {x y : D} : op2D .Mod x y = modD x y := rfl
theorem op2_pow {x y : D} : op2D .Pow x y = powD x y := rfl
theorem op2_and {x y : D} : op2D .BitAnd x y = andD x y := rfl
theorem op2_shr {x y : D} : op2D .RShift x y = shrD x y := rfl
theorem fr_i : fr (.int i) = (.int i, 0) := rfl
theorem fr_s : fr (.str a) = (.str a, 0) := rfl
theorem fr_b {b : Bool} : fr (.bl b) = (.bl b, 0) := rfl
theorem fr_n : fr .non = (.non, 0) := rfl
theorem fr_l : fr (.lst l) = (.lst l, 1) := rfl
theorem hasd_i {k n : Nat} : hasd k (.int i, n) = true := by simp [hasd, imm]
theorem hasd_b {k n : Nat} {b : Bool} : hasd k (.bl b, n) = true := by simp [hasd, imm]
theorem hasd_s {k n : Nat} : hasd k (.str a, n) = true := by simp [hasd, imm]
theorem hasd_n {k n : Nat} : hasd k (.non, n) = true := by simp [hasd, imm]
theorem hasd_0 {d : D} {n : Nat} : hasd 0 (d, n) = true := by simp [hasd]
theorem nofz_i {n : Nat} : nofz n (.int i) = true := by simp [nofz]
theorem nofz_b {n : Nat} {b : Bool} : nofz n (.bl b) = true := by simp [nofz]
theorem nofz_s {n : Nat} : nofz n (.str a) = true := by simp [nofz]
theorem nofz_n {n : Nat} : nofz n .non = true := by simp [nofz]
theorem ixD_dk {kvs : List (Key × D)} : ixD (.dk kvs) (.str a) = getK kvs (.inr a) := rfl
theorem ixD_dki {kvs : List (Key × D)} : ixD (.dk kvs) (.int i) = getK kvs (.inl i) := rfl
theorem ixD_l : ixD (.lst l) (.int i) = atI l i := rfl
theorem getK_c {κ α : Type} [DecidableEq κ] {p : κ × α} {r : List (κ × α)} {k : κ} : getK (p :: r) k = if p.1 = k then some p.2 else getK r k := rfl
theorem putD_c {κ α : Type} [DecidableEq κ] {p : κ × α} {r : List (κ × α)} {k : κ} {v : α} : putD (p :: r) k v = if p.1 = k then (p.1, v) :: r else p :: putD r k v := rfl
theorem getK_y {κ α : Type} [DecidableEq κ] {k : κ} {v : α} {r : List (κ × α)} : getK ((k, v) :: r) k = some v := by simp [getK]
theorem getK_n {κ α : Type} [DecidableEq κ] {k k' : κ} {v : α} {r : List (κ × α)} (h : k' ≠ k) : getK ((k', v) :: r) k = getK r k := by simp [getK, h]
theorem putD_y {κ α : Type} [DecidableEq κ] {k : κ} {v w : α} {r : List (κ × α)} : putD ((k, v) :: r) k w = (k, w) :: r := by simp [putD]
theorem putD_n {κ α : Type} [DecidableEq κ] {k k' : κ} {v w : α} {r : List (κ × α)} (h : k' ≠ k) : putD ((k', v) :: r) k w = (k', v) :: putD r k w := by simp [putD, h]
theorem setD_dk {kvs : List (Key × D)} {n : Nat} {v : Sl} (h1 : kvs.length < sizeLine) (h2 : hasd (n - 1) v = true) : setD (.dk kvs) n (.str a) v = some (.dk (putD kvs (.inr a) v.1)) := by simp [setD, isKey, h1, h2]
theorem ints_flat : ∀ ns : List Int, flatL (ns.map .int) = true
  | [] => rfl
  | _ :: ns => by simp [flatL, flatD, ints_flat ns]
theorem ints_toPy : ∀ ns : List Int, toPyL (ns.map .int) = some (ns.map .int)
  | [] => rfl
  | n :: ns => by simp [toPyL, toPy, ints_toPy ns]
end
end Pi
namespace Pi
open PySem L2
theorem canLay_ints : ∀ ns : List Int, PyData.canLayAll0 (ns.map .int) = true
  | [] => by simp [PyData.canLayAll0]
  | n :: ns => by simp [PyData.canLayAll0, PyData.canLay0, canLay_ints ns]
theorem depth_ints : ∀ ns : List Int, PyData.depthAll (ns.map .int) = 0
  | [] => by simp [PyData.depthAll]
  | n :: ns => by simp [PyData.depthAll, PyData.depth, depth_ints ns]
theorem eqD_nil (ns : List Int) : eqD (.lst (ns.map .int)) (.lst []) = some ns.isEmpty := by
  have h1 : toPy (.lst (ns.map .int)) = some (.list (ns.map .int)) := by simp [toPy, ints_toPy]
  have h2 : toPy (.lst []) = some (.list []) := by simp [toPy, toPyL]
  have h3 : SeqAt.shaped (.list (ns.map .int)) = true := by simp [SeqAt.shaped, PyData.canLay0, canLay_ints, PyData.depth, depth_ints]
  have h4 : SeqAt.shaped (.list []) = true := by simp [SeqAt.shaped, PyData.canLay0, PyData.canLayAll0, PyData.depth, PyData.depthAll]
  unfold eqD
  simp only [scalD, h1, h2, h3, h4, Bool.and_self, if_true]
  cases ns <;> simp [PyData.eqv, PyData.eqvAll]
theorem exec_seq {cf : Cf} {a b : Sm} {ρ ρ1 : Env} (h : exec cf a ρ = .ok .nx ρ1) : exec cf (.seq a b) ρ = exec cf b ρ1 := by
  simp only [exec, h, bind_ok]
theorem exec_seq_rt {cf : Cf} {a b : Sm} {ρ ρ1 : Env} {v : Sl} (h : exec cf a ρ = .ok (.rt v) ρ1) : exec cf (.seq a b) ρ = .ok (.rt v) ρ1 := by
  simp only [exec, h, bind_ok]
end Pi
namespace Pi
open PySem L2
theorem exec_if_t {cf : Cf} {c : Ex} {a b : Sm} {ρ ρ1 : Env} (h : evT cf c ρ = .ok true ρ1) : exec cf (.ifs c a b) ρ = exec cf a ρ1 := by
  simp only [exec, h, bind_ok, if_true]
theorem exec_if_f {cf : Cf} {c : Ex} {a b : Sm} {ρ ρ1 : Env} (h : evT cf c ρ = .ok false ρ1) : exec cf (.ifs c a b) ρ = exec cf b ρ1 := by
  simp only [exec, h, bind_ok, Bool.false_eq_true, if_false]
theorem exec_skip {cf : Cf} {ρ : Env} : exec cf .skip ρ = .ok .nx ρ := rfl
theorem exec_ret {cf : Cf} {e : Ex} {ρ ρ1 : Env} {v : Sl} (h : ev cf e ρ = .ok v ρ1) : exec cf (.ret e) ρ = .ok (.rt v) ρ1 := by
  simp only [exec, h, bind_ok]
theorem exec_asg {cf : Cf} {i : Nat} {e : Ex} {ρ ρ1 : Env} {v : Sl} (h : ev cf e ρ = .ok v ρ1) : exec cf (.asg (.nm i) e) ρ = .ok .nx (st ρ1 i (some v)) := by
  simp only [exec, h, bind_ok]
end Pi
/-! Pi27: rules for runs of the evaluator: calls, loops, comprehensions; values. -/
namespace Pi
open PySem L2
theorem callN_ok {defs : List (Str × Df)} {con : List D} {fuel k : Nat} {f : Str} {df : Df} {args : List Sl} {v : Sl} {ρ ρ0 : Env} (h : defs.lookup f = some df) (hl : args.length = df.np) (h0 : args.map some ++ List.replicate (df.nl - df.np) none = ρ0)
    (hb : exec ⟨callN defs con fuel k, con, fuel⟩ df.body ρ0 = .ok (.rt v) ρ) (hm : isMk df.body = false := by rfl) (hr : rcOk df.rc args = true := by rfl) : callN defs con fuel (k + 1) f args = .ok v (outsOf df ρ) := by
  rw [callN]
  simp only [h, hm, Bool.false_eq_true, if_false, hr, if_true]
  unfold runDf
  rw [if_pos hl, h0, hb]
theorem exec_fors {cf : Cf} {t : Tg} {it : Ex} {b : Sm} {ρ ρ1 : Env} {xs : List D} (h : evI cf it ρ = .ok xs ρ1) : exec cf (.fors none t it b) ρ = forL (fun x ρ => match setT t x ρ with | some ρ2 => exec cf b ρ2 | none => .stk) xs ρ1 := by
  simp only [exec, h, bind_ok]
  all_goals rfl
theorem evI_irng1 {cf : Cf} {a : Ex} {ρ ρ1 : Env} {x : Sl} {l : List D} (h : ev cf a ρ = .ok x ρ1) (h2 : rngD (.int 0) x.1 = some l) : evI cf (.irng1 a) ρ = .ok l ρ1 := by
  simp only [evI, h, bind_ok, h2, of_some]
theorem evI_irng2 {cf : Cf} {a b : Ex} {ρ ρ1 ρ2 : Env} {x y : Sl} {l : List D} (h : ev cf a ρ = .ok x ρ1) (h1 : ev cf b ρ1 = .ok y ρ2) (h2 : rngD x.1 y.1 = some l) : evI cf (.irng2 a b) ρ = .ok l ρ2 := by
  simp only [evI, h, h1, bind_ok, h2, of_some]
theorem evI_irng3 {cf : Cf} {a b c : Ex} {ρ ρ1 ρ2 ρ3 : Env} {x y z : Sl} {l : List D} (h : ev cf a ρ = .ok x ρ1) (h1 : ev cf b ρ1 = .ok y ρ2) (h2 : ev cf c ρ2 = .ok z ρ3) (h3 : rng3D x.1 y.1 z.1 = some l) : evI cf (.irng3 a b c) ρ = .ok l ρ3 := by
  simp only [evI, h, h1, h2, bind_ok, h3, of_some]
theorem evI_ienumT {cf : Cf} {a : Ex} {ρ ρ1 : Env} {l : List D} {n : Nat} (h : ev cf a ρ = .ok (.tup l, n) ρ1) : evI cf (.ienum a) ρ = .ok (enumD l) ρ1 := by
  simp only [evI, h, bind_ok]
theorem evI_ivalL {cf : Cf} {a : Ex} {ρ ρ1 : Env} {l : List D} {n : Nat} (h : ev cf a ρ = .ok (.lst l, n) ρ1) : evI cf (.ival a) ρ = .ok l ρ1 := by
  simp only [evI, h, bind_ok, itemsD, of_some]
theorem evI_ivalT {cf : Cf} {a : Ex} {ρ ρ1 : Env} {l : List D} {n : Nat} (h : ev cf a ρ = .ok (.tup l, n) ρ1) : evI cf (.ival a) ρ = .ok l ρ1 := by
  simp only [evI, h, bind_ok, itemsD, of_some]
theorem forL_inv {f : D → Env → Rs Fl} (I : Nat → Env → Prop) : ∀ (xs : List D) (i : Nat) (ρ : Env), I i ρ → (∀ j x ρ, xs[j]? = some x → I (i + j) ρ → ∃ ρ', f x ρ = .ok .nx ρ' ∧ I (i + j + 1) ρ') → ∃ ρ', forL f xs ρ = .ok .nx ρ' ∧ I (i + xs.length) ρ'
  | [], i, ρ, h, _ => ⟨ρ, rfl, h⟩
  | x :: xs, i, ρ, h, hs => by
    obtain ⟨ρ1, e, h1⟩ := hs 0 x ρ rfl h
    obtain ⟨ρ2, e2, h2⟩ := forL_inv I xs (i + 1) ρ1 h1 fun j y ρ hj hi => by
      have := hs (j + 1) y ρ (by simpa using hj) (by rw [show i + (j + 1) = i + 1 + j by omega]; exact hi)
      rw [show i + (j + 1) + 1 = i + 1 + j + 1 by omega] at this
      exact this
    refine ⟨ρ2, ?_, by rw [List.length_cons, show i + (xs.length + 1) = i + 1 + xs.length by omega]; exact h2⟩
    rw [forL, e, bind_ok]
    exact e2
theorem fors_inv {cf : Cf} {t : Tg} {it : Ex} {b : Sm} {ρ ρ1 : Env} {xs : List D} {P : Env → Prop} (I : Nat → Env → Prop) (h : evI cf it ρ = .ok xs ρ1) (h0 : I 0 ρ1)
    (hs : ∀ j x ρ, xs[j]? = some x → I j ρ → ∃ ρ2 ρ', setT t x ρ = some ρ2 ∧ exec cf b ρ2 = .ok .nx ρ' ∧ I (j + 1) ρ') (he : ∀ ρ, I xs.length ρ → P ρ) : ∃ ρ', exec cf (.fors none t it b) ρ = .ok .nx ρ' ∧ P ρ' := by
  obtain ⟨ρ', e, h1⟩ := forL_inv (f := fun x ρ => match setT t x ρ with | some ρ2 => exec cf b ρ2 | none => .stk) I xs 0 ρ1 h0 fun j x ρ hx hI => by
    rw [Nat.zero_add] at hI ⊢
    obtain ⟨ρ2, ρ', e1, e2, h⟩ := hs j x ρ hx hI
    exact ⟨ρ', by simp only [e1, e2], h⟩
  rw [Nat.zero_add] at h1
  exact ⟨ρ', by rw [exec_fors h]; exact e, he ρ' h1⟩
theorem whileL_inv {c : Env → Rs Bool} {f : Env → Rs Fl} (I : Nat → Env → Prop) (P : Env → Prop)
    (hs : ∀ m ρ, I m ρ → (∃ ρ1, c ρ = .ok false ρ1 ∧ P ρ1) ∨ ∃ ρ1 ρ2 m', c ρ = .ok true ρ1 ∧ f ρ1 = .ok .nx ρ2 ∧ m' < m ∧ I m' ρ2) : ∀ (n m : Nat) (ρ : Env), m < n → I m ρ → ∃ ρ', whileL c f n ρ = .ok .nx ρ' ∧ P ρ'
  | 0, m, ρ, h, _ => absurd h (by omega)
  | n + 1, m, ρ, h, hi => by
    rcases hs m ρ hi with ⟨ρ1, e, p⟩ | ⟨ρ1, ρ2, m', e, e2, hm, hi2⟩
    · exact ⟨ρ1, by rw [whileL, e, bind_ok, if_neg Bool.false_ne_true], p⟩
    · obtain ⟨ρ3, e3, p⟩ := whileL_inv I P hs n m' ρ2 (by omega) hi2
      refine ⟨ρ3, ?_, p⟩
      rw [whileL, e, bind_ok, if_pos rfl, e2, bind_ok]
      exact e3
theorem exec_whl {cf : Cf} {c : Ex} {b : Sm} {ρ : Env} {P : Env → Prop} (h : ∃ ρ', whileL (evT cf c) (exec cf b) cf.fuel ρ = .ok .nx ρ' ∧ P ρ') : ∃ ρ', exec cf (.whl c b) ρ = .ok .nx ρ' ∧ P ρ' := h
def ocons (y : Option D) (ys : List D) : List D := match y with
  | some z => z :: ys
  | none => ys
theorem lclc {f : D → Env → Rs (Option D)} {x : D} {xs : List D} {ρ ρ1 ρ2 : Env} {y : Option D} {ys : List D} (h : f x ρ = .ok y ρ1) (h2 : lcL f xs ρ1 = .ok ys ρ2) : lcL f (x :: xs) ρ = .ok (ocons y ys) ρ2 := by
  simp only [lcL, h, bind_ok, h2]
  all_goals rfl
/-- a comprehension that keeps every item -/
theorem lcL_map {f : D → Env → Rs (Option D)} (g : Nat → D → D → Prop) (I : Env → Prop) : ∀ (xs : List D) (n : Nat) (ρ : Env), I ρ → (∀ i x ρ, xs[i]? = some x → I ρ → ∃ y ρ', f x ρ = .ok (some y) ρ' ∧ g (n + i) x y ∧ I ρ') → ∃ ys ρ', lcL f xs ρ = .ok ys ρ' ∧ ys.length = xs.length ∧ (∀ i x y, xs[i]? = some x → ys[i]? = some y → g (n + i) x y) ∧ I ρ'
  | [], n, ρ, h, _ => ⟨[], ρ, rfl, rfl, fun i x y e => by simp at e, h⟩
  | x :: xs, n, ρ, h, hs => by
    obtain ⟨y, ρ1, e, hg, h1⟩ := hs 0 x ρ rfl h
    obtain ⟨ys, ρ2, e2, hl, hg2, h2⟩ := lcL_map g I xs (n + 1) ρ1 h1 fun i z ρ hz hi => by
      have := hs (i + 1) z ρ (by simpa using hz) hi
      rw [show n + (i + 1) = n + 1 + i by omega] at this
      exact this
    refine ⟨y :: ys, ρ2, lclc (y := some y) e e2, by simp [hl], fun i a b ha hb => ?_, h2⟩
    cases i with
    | zero => simp at ha hb; subst ha hb; exact hg
    | succ i =>
      have := hg2 i a b (by simpa using ha) (by simpa using hb)
      rw [show n + (i + 1) = n + 1 + i by omega]
      exact this
/-- one turn of a comprehension -/
def lcF (cf : Cf) (k : Nat) (own : List Nat) (elt : Ex) (tg : Tg) (cnd : Ex) (x : D) (ρ : Env) : Rs (Option D) := match setT tg x ρ with
  | none => .stk
  | some ρ2 => (evT cf cnd ρ2).bind fun t ρ3 => if t then
      (ev cf elt ρ3).bind fun s ρ4 => if hasd k s then .ok (some s.1) (wp ρ4 own) else .stk
    else .ok none (wp ρ3 own)
theorem lcF_ok {cf : Cf} {k : Nat} {own : List Nat} {elt cnd : Ex} {tg : Tg} {x : D} {s : Sl} {ρ ρ2 ρ3 ρ4 : Env} (h1 : setT tg x ρ = some ρ2) (h2 : evT cf cnd ρ2 = .ok true ρ3) (h3 : ev cf elt ρ3 = .ok s ρ4) (h4 : hasd k s = true) : lcF cf k own elt tg cnd x ρ = .ok (some s.1) (wp ρ4 own) := by
  simp only [lcF, h1, h2, bind_ok, if_true, h3, h4]
theorem lcF_no {cf : Cf} {k : Nat} {own : List Nat} {elt cnd : Ex} {tg : Tg} {x : D} {ρ ρ2 ρ3 : Env} (h1 : setT tg x ρ = some ρ2) (h2 : evT cf cnd ρ2 = .ok false ρ3) : lcF cf k own elt tg cnd x ρ = .ok none (wp ρ3 own) := by
  simp only [lcF, h1, h2, bind_ok, Bool.false_eq_true, if_false]
theorem ev_lcx {cf : Cf} {k : Nat} {own : List Nat} {elt it cnd : Ex} {tg : Tg} {ρ ρ1 ρ5 : Env} {xs ys : List D} (hi : evI cf it ρ = .ok xs ρ1) (hl : lcL (lcF cf k own elt tg cnd) xs (wp ρ1 own) = .ok ys ρ5) (hn : ys.length ≤ sizeLine) : ev cf (.lc k own elt tg it cnd) ρ = .ok (.lst ys, k + 1) (rst ρ1 ρ5 own) := by
  rw [ev, hi, bind_ok]
  refine (congrArg (fun r => Rs.bind r _) hl).trans ?_
  rw [bind_ok, if_pos hn]
theorem selL0 {α : Type} {l : List α} : selL l [] = l := rfl
theorem truthD_b {b : Bool} : truthD (.bl b) = some b := rfl
theorem cmp_lt {i j : Int} : cmpD .Lt (.int i) (.int j) = some (decide (i < j)) := rfl
theorem cmp_gt {i j : Int} : cmpD .Gt (.int i) (.int j) = some (decide (j < i)) := rfl
theorem cmp_ge {i j : Int} : cmpD .GtE (.int i) (.int j) = some (decide (j ≤ i)) := rfl
theorem cmp_le {i j : Int} : cmpD .LtE (.int i) (.int j) = some (decide (i ≤ j)) := rfl
theorem cmp_eq {i j : Int} : cmpD .Eq (.int i) (.int j) = some (i == j) := rfl
theorem cmp_ne {i j : Int} : cmpD .NotEq (.int i) (.int j) = some (!(i == j)) := rfl
theorem eq_str (s : Str) : cmpD .Eq (.str s) (.str s) = some true := by
  simp [cmpD, eqD, scalD]
theorem ne_str (s : Str) : cmpD .NotEq (.str s) (.str s) = some false := by
  simp [cmpD, eqD, scalD]
theorem intB_i {i : Int} : bltD .int [.int i] = some (.int i) := rfl
theorem lenB_l {l : List D} : bltD .len [.lst l] = some (.int (l.length : Nat)) := rfl
theorem lenB_t {l : List D} : bltD .len [.tup l] = some (.int (l.length : Nat)) := rfl
theorem listB_t {l : List D} : bltD .list [.tup l] = some (.lst l) := rfl
theorem tupB_l {l : List D} : bltD .tuple [.lst l] = some (.tup l) := rfl
theorem maxB_i {i j : Int} : bltD .max [.int i, .int j] = some (.int (if j > i then j else i)) := rfl
theorem ixD_t {l : List D} {i : Int} : ixD (.tup l) (.int i) = atI l i := rfl
theorem fr_t {l : List D} : fr (.tup l) = (.tup l, 0) := rfl
theorem atI_nat {l : List D} {n : Nat} {d : D} (h : l[n]? = some d) : atI l (n : Int) = some d := by
  have hn := (List.getElem?_eq_some_iff.mp h).1
  unfold atI ixN
  rw [if_pos (by omega), if_pos (by omega)]
  exact h
theorem atI_end {l : List D} {d : D} (h : l[l.length - 1]? = some d) : atI l (-1) = some d := by
  have hn := (List.getElem?_eq_some_iff.mp h).1
  unfold atI ixN
  rw [if_neg (by decide), if_pos (by omega)]
  have : (-1 + (l.length : Int)).toNat = l.length - 1 := by omega
  rw [this]; exact h
theorem setD_l {l : List D} {n m : Nat} {v : Sl} (hm : m < l.length) (hv : hasd (n - 1) v = true) : setD (.lst l) n (.int (m : Int)) v = some (.lst (l.set m v.1)) := by
  have : ixN l.length (m : Int) = some m := by
    unfold ixN
    rw [if_pos (by omega), if_pos (by omega)]; rfl
  simp only [setD, this, hv, if_true]
theorem set_map {l : List Int} {m : Nat} {x : Int} : (l.map D.int).set m (.int x) = (l.set m x).map D.int := (List.map_set (f := D.int)).symm
theorem get_map {l : List Int} {n : Nat} (h : n < l.length) : (l.map D.int)[n]? = some (.int (l.getD n 0)) := by
  rw [List.getElem?_map, List.getElem?_eq_getElem h, List.getD_eq_getElem?_getD, List.getElem?_eq_getElem h]; rfl
theorem cut_pre {l : List D} {n : Nat} (h : n ≤ l.length) : cutD l none (some (n : Int)) = l.take n := by
  unfold cutD
  have e1 : HT.sIx l.length 0 none = 0 := rfl
  have e2 : HT.sIx l.length l.length (some (n : Int)) = n := by
    unfold HT.sIx
    simp only []
    split <;> omega
  rw [e1, e2]; simp
theorem enumD_at {l : List Int} {j : Nat} {x : D} (h : (enumD (l.map .int))[j]? = some x) : j < l.length ∧ x = .tup [.int (j : Nat), .int (l.getD j 0)] := by
  obtain ⟨y, hy, rfl⟩ := enum_at h
  have hj : j < l.length := by have := (List.getElem?_eq_some_iff.mp hy).1; simpa using this
  rw [get_map hj] at hy
  cases hy
  exact ⟨hj, rfl⟩
theorem rep0 {n : Nat} : (List.replicate n [D.int 0]).flatten = (List.replicate n (0 : Int)).map D.int := by
  induction n with
  | zero => rfl
  | succ n ih => rw [List.replicate_succ, List.flatten_cons, ih, List.replicate_succ]; rfl
theorem mulD_rep {k : Int} {n : Nat} (hk : k = (n : Int)) (h : n ≤ 1000) : mulD (.lst [.int 0]) (.int k) = some (.lst ((List.replicate n (0 : Int)).map D.int)) := by
  subst hk
  simp only [mulD]
  have hs : (1000 : Nat) ≤ sizeLine := by decide
  rw [if_pos (by simp only [Bool.and_eq_true, decide_eq_true_eq, List.length_cons, List.length_nil, Int.toNat_natCast]; omega), Int.toNat_natCast, rep0]
theorem toPy_ints (f : List Int) : toPy (.tup (f.map .int)) = some (.tuple (f.map .int)) := by simp [toPy, ints_toPy]
theorem eqD_nilT (ns : List Int) : eqD (.tup (ns.map .int)) (.tup []) = some ns.isEmpty := by
  have h1 := toPy_ints ns
  have h2 : toPy (.tup []) = some (.tuple []) := by simp [toPy, toPyL]
  have h3 : SeqAt.shaped (.tuple (ns.map .int)) = true := by simp [SeqAt.shaped, PyData.canLay0, canLay_ints, PyData.depth, depth_ints]
  have h4 : SeqAt.shaped (.tuple []) = true := by simp [SeqAt.shaped, PyData.canLay0, PyData.canLayAll0, PyData.depth, PyData.depthAll]
  unfold eqD
  simp only [scalD, h1, h2, h3, h4, Bool.and_self, if_true]
  cases ns <;> simp [PyData.eqv, PyData.eqvAll]
theorem bitN {l : Nat} : andD (.int (l : Int)) (.int 1) = some (.int ((l % 2 : Nat) : Int)) := by
  show some (D.int (Builtin.bitAnd (l : Int) 1)) = _
  rw [PyProof.Rows.bitAnd_m1, Int.natCast_emod]; rfl
theorem shrN {l : Nat} : shrD (.int (l : Int)) (.int 1) = some (.int ((l / 2 : Nat) : Int)) := by
  show (if (0 : Int) ≤ 1 then some (D.int ((l : Int) / 2 ^ (1 : Int).toNat)) else none) = _
  rw [if_pos (by decide), Int.natCast_ediv]; rfl
theorem mulOk_small {a b : Int} (ha : a.natAbs < 2 ^ 64) : mulOk a b = true := by
  simp only [mulOk, Bool.or_eq_true, decide_eq_true_eq]
  exact .inl (.inl ha)
theorem ev_op2 {cf : Cf} {o : Operator} {a b : Ex} {ρ ρ1 ρ2 : Env} {x y d : D} {n m : Nat} (h1 : ev cf a ρ = .ok (x, n) ρ1) (h2 : ev cf b ρ1 = .ok (y, m) ρ2) (h3 : op2D o x y = some d) : ev cf (.op2 o a b) ρ = .ok (fr d) ρ2 := by
  rw [ev, h1, bind_ok, h2, bind_ok, h3, of_some, bind_ok]
theorem z1 : decide (1 ≤ sizeLine) = true := by decide
theorem ev_l0 {cf : Cf} {ρ : Env} : ev cf (.lst 0 (.cons (.int 0) .nil)) ρ = .ok (.lst [.int 0], 1) ρ := by
  simp only [ev, evA, bind_ok, of_some, valsA, Option.map_some, List.all_cons, List.all_nil, hasd_0, Bool.and_self, List.length_cons, List.length_nil, Nat.zero_add, z1, if_true, demL, List.map_cons, List.map_nil]
/-- [0] * n -/
theorem ev_rep {cf : Cf} {b : Ex} {ρ ρ2 : Env} {i : Int} {m n : Nat} (h : ev cf b ρ = .ok (.int i, m) ρ2) (hi : i = (n : Int)) (hn : n ≤ 1000) : ev cf (.op2 .Mult (.lst 0 (.cons (.int 0) .nil)) b) ρ = .ok (.lst ((List.replicate n (0 : Int)).map D.int), 1) ρ2 :=
  ev_op2 ev_l0 h (mulD_rep hi hn)
theorem lcl_fun {α : Type} {f : D → Env → Rs (Option D)} (h g : α → D) (I : Env → Prop) : ∀ (xs : List α) (ρ : Env), I ρ → (∀ x ∈ xs, ∀ ρ, I ρ → ∃ ρ', f (h x) ρ = .ok (some (g x)) ρ' ∧ I ρ') → ∃ ρ', lcL f (xs.map h) ρ = .ok (xs.map g) ρ' ∧ I ρ'
  | [], ρ, i, _ => ⟨ρ, rfl, i⟩
  | x :: xs, ρ, i, hs => by
    obtain ⟨ρ1, e, i1⟩ := hs x (List.mem_cons_self ..) ρ i
    obtain ⟨ρ2, e2, i2⟩ := lcl_fun h g I xs ρ1 i1 fun y hy => hs y (List.mem_cons_of_mem _ hy)
    exact ⟨ρ2, lclc (y := some (g x)) e e2, i2⟩
theorem len_size {n : Nat} (h : n ≤ 1000) : n ≤ sizeLine := Nat.le_trans h (by decide)
theorem augD_add {i j : Int} : augD .Add (.int i) (.int j) = some (.int (i + j)) := rfl
theorem ev_q {cf : Cf} {e : Ex} {ρ ρ1 : Env} {d : D} {n : Nat} (h : ev cf e ρ = .ok (d, n) ρ1) (hz : nofz n d = true) : ev cf (.q e) ρ = .ok (d, n) ρ := by
  rw [ev, h, bind_ok, if_pos hz]
theorem ev_call1 {cf : Cf} {f : Str} {a : Ex} {ρ ρ1 : Env} {x v : Sl} {o : List (Option Sl)} (ha : (∀ i, a ≠ .lend i)) (h : ev cf a ρ = .ok x ρ1) (hc : cf.call f [x] = .ok v o) : ev cf (.call f (.cons a .nil) [] []) ρ = .ok v ρ1 := by
  have he : evA cf (.cons a .nil) ρ = .ok [.val x] ρ1 := by
    cases a <;> first | exact absurd rfl (ha _) | simp only [evA, h, bind_ok]
  simp only [ev, he, bind_ok, resolveA, List.all_nil, if_true, selL0, hc, backsTo]
theorem lcl_filter {α : Type} {f : D → Env → Rs (Option D)} (h : α → D) (P : α → Bool) (g : α → D) (I : Env → Prop) : ∀ (xs : List α) (ρ : Env), I ρ → (∀ x ∈ xs, ∀ ρ, I ρ → ∃ ρ', f (h x) ρ = .ok (if P x then some (g x) else none) ρ' ∧ I ρ') → ∃ ρ', lcL f (xs.map h) ρ = .ok ((xs.filter P).map g) ρ' ∧ I ρ'
  | [], ρ, i, _ => ⟨ρ, rfl, i⟩
  | x :: xs, ρ, i, hs => by
    obtain ⟨ρ1, e, i1⟩ := hs x (List.mem_cons_self ..) ρ i
    obtain ⟨ρ2, e2, i2⟩ := lcl_filter h P g I xs ρ1 i1 fun y hy => hs y (List.mem_cons_of_mem _ hy)
    refine ⟨ρ2, ?_, i2⟩
    rw [List.map_cons, lclc e e2, List.filter_cons]
    cases P x <;> rfl
theorem rngI {i j : Int} (h1 : -(2 ^ 62) ≤ i) (h2 : i < 2 ^ 62) (h3 : -(2 ^ 62) ≤ j) (h4 : j < 2 ^ 62) : rngD (.int i) (.int j) = some ((List.range (j - i).toNat).map fun k => D.int (i + (k : Nat))) := by
  simp only [rngD]
  rw [if_pos (by simp only [Bool.and_eq_true, decide_eq_true_eq]; exact ⟨⟨⟨h1, h2⟩, h3⟩, h4⟩)]
theorem rngZ {n : Nat} (h : n < 2 ^ 30) : rngD (.int 0) (.int (n : Int)) = some ((List.range n).map fun (k : Nat) => D.int (k : Int)) := by
  rw [rngI (by decide) (by decide) (by omega) (by omega)]
  congr 1
  have : ((n : Int) - 0).toNat = n := by omega
  rw [this]
  apply List.map_congr_left
  intro a _
  congr 1; omega
theorem rngC {i j : Int} (h1 : -(2 ^ 62) ≤ i) (h2 : i < 2 ^ 62) (h3 : -(2 ^ 62) ≤ j) (h4 : j < 2 ^ 62) : rng3D (.int i) (.int j) (.int (-1)) = some ((List.range (i - j).toNat).map fun k => D.int (i + (k : Nat) * (-1))) := by
  obtain ⟨a, b, c, d⟩ := RgC.neg h1 h2 h3 h4
  simp only [rng3D]
  rw [d, c, if_pos (by simp only [Bool.and_eq_true, decide_eq_true_eq]; exact ⟨⟨⟨a, b⟩, trivial⟩, by omega⟩), Int.toNat_natCast]
theorem cut_to {l : List D} {n : Nat} : cutD l none (some (n : Int)) = l.take n := by
  by_cases h : n ≤ l.length
  · exact cut_pre h
  · unfold cutD
    have e1 : HT.sIx l.length 0 none = 0 := rfl
    have e2 : HT.sIx l.length l.length (some (n : Int)) = l.length := by
      unfold HT.sIx
      simp only []
      split <;> omega
    rw [e1, e2, List.take_of_length_le (i := n) (by omega)]; simp
theorem ev_ix {cf : Cf} {a b : Ex} {ρ ρ1 ρ2 : Env} {x y d : D} {n m : Nat} (h1 : ev cf a ρ = .ok (x, n) ρ1) (h2 : ev cf b ρ1 = .ok (y, m) ρ2) (h3 : ixD x y = some d) : ev cf (.ix a b) ρ = .ok (d, 0) ρ2 := by
  rw [ev, h1, bind_ok, h2, bind_ok, h3, of_some, bind_ok]
theorem ix_0 {l : List D} {d : D} : ixD (.lst (d :: l)) (.int 0) = some d := atI_nat (n := 0) rfl
theorem ix_t0 {l : List D} {d : D} : ixD (.tup (d :: l)) (.int 0) = some d := atI_nat (n := 0) rfl
theorem ix_t1 {l : List D} {c d : D} : ixD (.tup (c :: d :: l)) (.int 1) = some d := atI_nat (n := 1) rfl
end Pi
/-! Pi28: texts of small values -/
namespace Pi
open PySem L2
theorem int_len {x : Int} (h : x.natAbs < 1000) : (PyData.int x).shown.length ≤ 4 := by
  have := int_text_length_le10 (a := x) (k := 3) (by decide) (by simpa using h)
  show (Str.ofString (toString x)).length ≤ 4
  rw [ofString_length]; exact this
theorem piled_ints : ∀ f : List Int, (∀ x ∈ f, x.natAbs < 1000) → piled (PyData.shownAll (f.map .int)) ≤ 6 * f.length
  | [], _ => by simp [PyData.shownAll, piled]
  | x :: f, h => by
    have h1 := int_len (h x (List.mem_cons_self ..))
    have h2 := piled_ints f fun y hy => h y (List.mem_cons_of_mem _ hy)
    simp only [List.map_cons, PyData.shownAll, piled_cons, List.length_cons]
    omega
theorem tupleText_le (ts : List Str) : (tupleText ts).length ≤ piled ts + 3 := by
  unfold tupleText
  rw [strLen_append, strLen_append]
  have e1 : (("(" : Str)).length = 1 := rfl
  have e2 : ((if ts.length == 1 then ",)" else ")" : String) : Str).length ≤ 2 := by split <;> decide
  cases ts with
  | nil => 
    have : (Str.join ", " ([] : List Str)).length = 0 := rfl
    omega
  | cons t ts =>
    have := join_length_add (t :: ts) (by simp)
    omega
theorem tup_len {f : List Int} (h : ∀ x ∈ f, x.natAbs < 1000) : (PyData.tuple (f.map .int)).shown.length ≤ 6 * f.length + 3 := by
  have := tupleText_le (PyData.shownAll (f.map .int))
  have := piled_ints f h
  show (tupleText _).length ≤ _
  omega
theorem showable_ints : ∀ f : List Int, (∀ x ∈ f, x.natAbs < 1000) → PyData.showableAll (f.map .int) = true
  | [], _ => rfl
  | x :: f, h => by
    have h1 := h x (List.mem_cons_self ..)
    have h2 : x.natAbs.log2 < 1920 := by
      by_cases h0 : x.natAbs = 0
      · rw [h0]; decide
      · exact (Nat.log2_lt h0).mpr (Nat.lt_of_lt_of_le h1 (by
          have : 1000 ≤ 2 ^ 10 := by decide
          exact Nat.le_trans this (Nat.pow_le_pow_right (by decide) (by decide))))
    simp only [List.map_cons, PyData.showableAll, PyData.showable, decide_eq_true h2, showable_ints f fun y hy => h y (List.mem_cons_of_mem _ hy), Bool.and_self]
theorem noDict_ints : ∀ f : List Int, PyData.hasDictAll (f.map .int) = false
  | [] => rfl
  | x :: f => by simp [PyData.hasDictAll, PyData.hasDict, noDict_ints f]
theorem repr_tup {f : List Int} (h : ∀ x ∈ f, x.natAbs < 1000) (hl : f.length ≤ 1000) : ∃ s, bltD .repr [.tup (f.map .int)] = some (.str s) := by
  refine ⟨(PyData.tuple (f.map .int)).shown, ?_⟩
  show (reprD (.tup (f.map .int))).map D.str = _
  have h1 := tup_len h
  have h2 : 7000 ≤ sizeLine := by decide
  have h3 : (PyData.tuple (f.map .int)).shown.length ≤ sizeLine := by omega
  have h4 : (PyData.tuple (f.map .int)).depth ≤ 60 := by simp [PyData.depth, depth_ints]
  simp only [reprD, toPy_ints, PyData.showable, showable_ints f h, decide_eq_true h3, decide_eq_true h4, PyData.hasDict, noDict_ints, Bool.and_self, Bool.not_false, Bool.true_or, if_true, Option.map_some]
theorem list2_le (s : Str) : (listText [s, s]).length ≤ 2 * s.length + 4 := by
  unfold listText
  rw [strLen_append]
  simp only [textFrom, strLen_append]
  have e1 : (("[" : String) : Str).length = 1 := rfl
  have e2 : (("]" : String) : Str).length = 1 := rfl
  have e3 : ((", " : String) : Str).length = 2 := rfl
  have e4 : (("" : String) : Str).length = 0 := rfl
  simp [strLen_append, e1, e2, e3, e4]
  omega
theorem repr_two {f : List Int} (h : ∀ x ∈ f, x.natAbs < 1000) (hl : f.length ≤ 1000) : ∃ s, bltD .repr [.lst [.tup (f.map .int), .tup (f.map .int)]] = some (.str s) := by
  refine ⟨(PyData.list [.tuple (f.map .int), .tuple (f.map .int)]).shown, ?_⟩
  show (reprD (.lst [.tup (f.map .int), .tup (f.map .int)])).map D.str = _
  have h1 := tup_len h
  have h2 : 14000 ≤ sizeLine := by decide
  have h3 : (PyData.list [.tuple (f.map .int), .tuple (f.map .int)]).shown.length ≤ sizeLine := by
    have := list2_le (PyData.tuple (f.map .int)).shown
    simp only [PyData.shown, PyData.shownAll] at this h1 ⊢
    omega
  have h4 : (PyData.list [.tuple (f.map .int), .tuple (f.map .int)]).depth ≤ 60 := by simp [PyData.depth, PyData.depthAll, depth_ints]
  have h5 : toPy (.lst [.tup (f.map .int), .tup (f.map .int)]) = some (.list [.tuple (f.map .int), .tuple (f.map .int)]) := by simp only [toPy, toPyL, ints_toPy, Option.map_some]
  simp only [reprD, h5, PyData.showable, PyData.showableAll, showable_ints f h, decide_eq_true h3, decide_eq_true h4, PyData.hasDict, PyData.hasDictAll, noDict_ints, Bool.or_false, Bool.and_self, Bool.not_false, Bool.true_or, if_true, Option.map_some]
theorem list2_lt (s t : Str) : (listText [s, t]).length ≤ s.length + t.length + 4 := by
  unfold listText
  rw [strLen_append]
  simp only [textFrom, strLen_append]
  have e1 : (("[" : String) : Str).length = 1 := rfl
  have e2 : (("]" : String) : Str).length = 1 := rfl
  have e3 : ((", " : String) : Str).length = 2 := rfl
  have e4 : (("" : String) : Str).length = 0 := rfl
  simp [strLen_append, e1, e2, e3, e4]
  omega
theorem repr_i2 {a b : Int} (h1 : a.natAbs < 1000) (h2 : b.natAbs < 1000) : ∃ s, bltD .repr [.lst [.int a, .int b]] = some (.str s) := by
  refine ⟨(PyData.list [.int a, .int b]).shown, ?_⟩
  show (reprD (.lst [.int a, .int b])).map D.str = _
  have ha := int_len h1
  have hb := int_len h2
  have hz : 100 ≤ sizeLine := by decide
  have h3 : (PyData.list [.int a, .int b]).shown.length ≤ sizeLine := by
    have := list2_lt (PyData.int a).shown (PyData.int b).shown
    simp only [PyData.shown, PyData.shownAll] at this ha hb ⊢
    omega
  have h4 : (PyData.list [.int a, .int b]).depth ≤ 60 := by simp [PyData.depth, PyData.depthAll]
  have h5 : toPy (.lst [.int a, .int b]) = some (.list [.int a, .int b]) := by simp only [toPy, toPyL, Option.map_some]
  have hs := showable_ints [a, b] (fun x hx => by
    rcases List.mem_cons.mp hx with e | e
    · subst e; exact h1
    · rw [List.mem_singleton.mp e]; exact h2)
  have hs2 : PyData.showableAll [.int a, .int b] = true := hs
  simp only [reprD, h5, PyData.showable, hs2, decide_eq_true h3, decide_eq_true h4, PyData.hasDict, PyData.hasDictAll, Bool.or_false, Bool.and_self, Bool.not_false, Bool.true_or, if_true, Option.map_some]
end Pi
/-! Pi29: what holds behind a run (W): one rule a construct, for simp. -/
namespace Pi
open PySem L2
def Rs.W {α : Type} (r : Rs α) (Q : α → Env → Prop) (_t : Tag Q := ⟨⟩) : Prop := match r with
  | .ok a ρ => Q a ρ
  | _ => False
section
variable {α β : Type} {cf : Cf} {ρ : Env}
theorem W_ok {a : α} {Q : α → Env → Prop} : (Rs.ok a ρ).W Q = Q a ρ := rfl
theorem W_bind {r : Rs α} {f : α → Env → Rs β} {Q : β → Env → Prop} : (r.bind f).W Q = r.W fun a ρ => (f a ρ).W Q := by cases r <;> rfl
theorem W_q {r : Rs α} {Q Q' : α → Env → Prop} (h : ∀ a ρ, Q a ρ = Q' a ρ) : r.W Q = r.W Q' := by
  have : Q = Q' := funext fun a => funext fun ρ => h a ρ
  subst this; rfl
theorem W_inv {r : Rs α} {Q : α → Env → Prop} (h : r.W Q) : ∃ a ρ, r = .ok a ρ ∧ Q a ρ := by
  cases r with
  | ok a ρ => exact ⟨a, ρ, rfl, h⟩
  | stk => exact h.elim
  | ex => exact h.elim
theorem W_of {r : Rs α} {a : α} {ρ' : Env} {Q : α → Env → Prop} (h : r = .ok a ρ') (q : Q a ρ') : r.W Q := by rw [h]; exact q
theorem W_imp {r : Rs α} {Q Q' : α → Env → Prop} (h : r.W Q) (i : ∀ a ρ, Q a ρ → Q' a ρ) : r.W Q' := by
  cases r with
  | ok a ρ => exact i a ρ h
  | stk => exact h
  | ex => exact h
/-- behind the first of two statements -/
def kq (cf : Cf) (b : Sm) (Q : Fl → Env → Prop) (fl : Fl) (ρ : Env) : Prop := match fl with
  | .nx => (exec cf b ρ).W Q
  | fl => Q fl ρ
theorem kq_nx {b : Sm} {Q : Fl → Env → Prop} : kq cf b Q .nx ρ = (exec cf b ρ).W Q := rfl
theorem kq_rt {b : Sm} {Q : Fl → Env → Prop} {v : Sl} : kq cf b Q (.rt v) ρ = Q (.rt v) ρ := rfl
theorem kq_bk {b : Sm} {Q : Fl → Env → Prop} : kq cf b Q .bk ρ = Q .bk ρ := rfl
theorem kq_ct {b : Sm} {Q : Fl → Env → Prop} : kq cf b Q .ct ρ = Q .ct ρ := rfl
theorem W_seq {a b : Sm} {Q : Fl → Env → Prop} : (exec cf (.seq a b) ρ).W Q = (exec cf a ρ).W (kq cf b Q) := by
  rw [exec, W_bind]
  refine W_q fun fl ρ1 => ?_
  cases fl <;> rfl
theorem W_skip {Q : Fl → Env → Prop} : (exec cf .skip ρ).W Q = Q .nx ρ := rfl
theorem W_asg {i : Nat} {e : Ex} {Q : Fl → Env → Prop} : (exec cf (.asg (.nm i) e) ρ).W Q = (ev cf e ρ).W fun x ρ1 => Q .nx (st ρ1 i (some x)) := by
  rw [exec, W_bind]
  rfl
def tW (t : Tg) (Q : Fl → Env → Prop) (d : D) (ρ : Env) : Prop := match setT t d ρ with
  | some ρ2 => Q .nx ρ2
  | none => False
theorem W_asgT {l : List Nat} {e : Ex} {Q : Fl → Env → Prop} : (exec cf (.asg (.tp l) e) ρ).W Q = (ev cf e ρ).W fun x ρ1 => tW (.tp l) Q x.1 ρ1 := by
  rw [exec, W_bind]
  · refine W_q fun x ρ1 => ?_
    unfold tW
    cases setT (.tp l) x.1 ρ1 <;> rfl
  · intro i h; cases h
theorem W_asgN {l : List Tg1} {e : Ex} {Q : Fl → Env → Prop} : (exec cf (.asg (.tn l) e) ρ).W Q = (ev cf e ρ).W fun x ρ1 => tW (.tn l) Q x.1 ρ1 := by
  rw [exec, W_bind]
  · refine W_q fun x ρ1 => ?_
    unfold tW
    cases setT (.tn l) x.1 ρ1 <;> rfl
  · intro i h; cases h
theorem W_expr {e : Ex} {Q : Fl → Env → Prop} : (exec cf (.expr e) ρ).W Q = (ev cf e ρ).W fun _ ρ1 => Q .nx ρ1 := by
  rw [exec, W_bind]
  rfl
theorem W_ret {e : Ex} {Q : Fl → Env → Prop} : (exec cf (.ret e) ρ).W Q = (ev cf e ρ).W fun x ρ1 => Q (.rt x) ρ1 := by
  rw [exec, W_bind]
  rfl
theorem W_retn {Q : Fl → Env → Prop} : (exec cf .retn ρ).W Q = Q (.rt (.non, 0)) ρ := rfl
theorem W_brk {Q : Fl → Env → Prop} : (exec cf .brk ρ).W Q = Q .bk ρ := rfl
theorem W_cnt {Q : Fl → Env → Prop} : (exec cf .cnt ρ).W Q = Q .ct ρ := rfl
def iW (cf : Cf) (a b : Sm) (Q : Fl → Env → Prop) (t : Bool) (ρ : Env) : Prop := if t then (exec cf a ρ).W Q else (exec cf b ρ).W Q
theorem iW_t {a b : Sm} {Q : Fl → Env → Prop} : iW cf a b Q true ρ = (exec cf a ρ).W Q := rfl
theorem iW_f {a b : Sm} {Q : Fl → Env → Prop} : iW cf a b Q false ρ = (exec cf b ρ).W Q := rfl
theorem W_if {c : Ex} {a b : Sm} {Q : Fl → Env → Prop} : (exec cf (.ifs c a b) ρ).W Q = (evT cf c ρ).W (iW cf a b Q) := by
  rw [exec, W_bind]
  refine W_q fun t ρ1 => ?_
  cases t <;> rfl
def setixQ (i : Nat) (Q : Fl → Env → Prop) (v kk : Sl) (ρ : Env) : Prop := match gt ρ i with
  | some (d, n + 1) => (match setD d (n + 1) kk.1 v with
    | some d' => Q .nx (st ρ i (some (d', n + 1)))
    | none => False)
  | _ => False
theorem W_setix {i : Nat} {k e : Ex} {Q : Fl → Env → Prop} : (exec cf (.setix i k e) ρ).W Q = (ev cf e ρ).W fun v ρ1 => if (gt ρ1 i).isNone then False else (ev cf k ρ1).W fun kk ρ2 => setixQ i Q v kk ρ2 := by
  rw [exec, W_bind]
  refine W_q fun v ρ1 => ?_
  split
  · rfl
  · rw [W_bind]
    refine W_q fun kk ρ2 => ?_
    unfold setixQ
    rcases hg : gt ρ2 i with _ | ⟨d, _ | n⟩
    · rfl
    · rfl
    · simp only
      cases setD d (n + 1) kk.1 v <;> rfl
def parQ (l : List Nat) (Q : Fl → Env → Prop) (as : List Ar) (ρ : Env) : Prop := match valsA as with
  | some xs => (match setAll l xs ρ with
    | some ρ2 => Q .nx ρ2
    | none => False)
  | none => False
theorem W_par {l : List Nat} {e : Ex} {Q : Fl → Env → Prop} : (exec cf (.par l e) ρ).W Q = (evA cf e ρ).W (parQ l Q) := by
  rw [exec, W_bind, W_bind]
  refine W_q fun as ρ1 => ?_
  unfold parQ
  cases valsA as with
  | none => rfl
  | some xs =>
    simp only [of_some, W_ok]
    cases setAll l xs ρ1 <;> rfl
theorem W_never {Q : Fl → Env → Prop} : (exec cf .never ρ).W Q = False := rfl
def augQ (o : Operator) (i : Nat) (Q : Fl → Env → Prop) (x : D) (y : Sl) (ρ : Env) : Prop := match augD o x y.1 with
  | some d => Q .nx (st ρ i (some (d, 0)))
  | none => False
theorem W_aug {i : Nat} {o : Operator} {e : Ex} {x : D} {n : Nat} {Q : Fl → Env → Prop} (h : gt ρ i = some (x, n)) (hf : flatD x = true) : (exec cf (.aug i o e) ρ).W Q = (ev cf e ρ).W (augQ o i Q x) := by
  rw [exec]
  simp only [h, hf, if_true]
  rw [W_bind]
  refine W_q fun y ρ1 => ?_
  unfold augQ
  cases augD o x y.1 <;> rfl
/-! ### loops -/
def wK (I : Nat → Env → Prop) (m : Nat) (Q : Fl → Env → Prop) (fl : Fl) (ρ : Env) : Prop := match fl with
  | .nx => ∃ m', m' < m ∧ I m' ρ
  | .ct => ∃ m', m' < m ∧ I m' ρ
  | .bk => Q .nx ρ
  | .rt v => Q (.rt v) ρ
theorem wK_nx {I : Nat → Env → Prop} {m : Nat} {Q : Fl → Env → Prop} : wK I m Q .nx ρ = ∃ m', m' < m ∧ I m' ρ := rfl
theorem wK_ct {I : Nat → Env → Prop} {m : Nat} {Q : Fl → Env → Prop} : wK I m Q .ct ρ = ∃ m', m' < m ∧ I m' ρ := rfl
theorem wK_bk {I : Nat → Env → Prop} {m : Nat} {Q : Fl → Env → Prop} : wK I m Q .bk ρ = Q .nx ρ := rfl
theorem wK_rt {I : Nat → Env → Prop} {m : Nat} {Q : Fl → Env → Prop} {v : Sl} : wK I m Q (.rt v) ρ = Q (.rt v) ρ := rfl
def wT (cf : Cf) (b : Sm) (I : Nat → Env → Prop) (m : Nat) (Q : Fl → Env → Prop) (t : Bool) (ρ : Env) : Prop := match t with
  | true => (exec cf b ρ).W (wK I m Q)
  | false => Q .nx ρ
theorem wT_t {b : Sm} {I : Nat → Env → Prop} {m : Nat} {Q : Fl → Env → Prop} : wT cf b I m Q true ρ = (exec cf b ρ).W (wK I m Q) := rfl
theorem wT_f {b : Sm} {I : Nat → Env → Prop} {m : Nat} {Q : Fl → Env → Prop} : wT cf b I m Q false ρ = Q .nx ρ := rfl
theorem whileL_W {c : Ex} {b : Sm} {I : Nat → Env → Prop} {Q : Fl → Env → Prop} (hs : ∀ m ρ, I m ρ → (evT cf c ρ).W (wT cf b I m Q)) : ∀ (n m : Nat) (ρ : Env), m < n → I m ρ → (whileL (evT cf c) (exec cf b) n ρ).W Q
  | 0, m, ρ, h, _ => absurd h (Nat.not_lt_zero m)
  | n + 1, m, ρ, h, hi => by
    obtain ⟨t, ρ1, e, q⟩ := W_inv (hs m ρ hi)
    rw [whileL, e, bind_ok]
    cases t with
    | false => exact q
    | true =>
      rw [if_pos rfl]
      rw [wT_t] at q
      obtain ⟨fl, ρ2, e2, q2⟩ := W_inv q
      rw [e2, bind_ok]
      cases fl with
      | nx => obtain ⟨m', h', hi'⟩ := q2; exact whileL_W hs n m' ρ2 (by omega) hi'
      | ct => obtain ⟨m', h', hi'⟩ := q2; exact whileL_W hs n m' ρ2 (by omega) hi'
      | bk => exact q2
      | rt v => exact q2
theorem W_whl {c : Ex} {b : Sm} {Q : Fl → Env → Prop} (I : Nat → Env → Prop) (m : Nat) (h0 : I m ρ) (hm : m < cf.fuel) (hs : ∀ m ρ, I m ρ → (evT cf c ρ).W (wT cf b I m Q)) : (exec cf (.whl c b) ρ).W Q := by
  rw [exec]
  exact whileL_W hs _ m ρ hm h0
def fK (I : Nat → Env → Prop) (j : Nat) (Q : Fl → Env → Prop) (fl : Fl) (ρ : Env) : Prop := match fl with
  | .nx => I (j + 1) ρ
  | .ct => I (j + 1) ρ
  | .bk => Q .nx ρ
  | .rt v => Q (.rt v) ρ
theorem fK_nx {I : Nat → Env → Prop} {m : Nat} {Q : Fl → Env → Prop} : fK I m Q .nx ρ = I (m + 1) ρ := rfl
theorem fK_ct {I : Nat → Env → Prop} {m : Nat} {Q : Fl → Env → Prop} : fK I m Q .ct ρ = I (m + 1) ρ := rfl
theorem fK_bk {I : Nat → Env → Prop} {m : Nat} {Q : Fl → Env → Prop} : fK I m Q .bk ρ = Q .nx ρ := rfl
theorem fK_rt {I : Nat → Env → Prop} {m : Nat} {Q : Fl → Env → Prop} {v : Sl} : fK I m Q (.rt v) ρ = Q (.rt v) ρ := rfl
def fT (cf : Cf) (t : Tg) (b : Sm) (I : Nat → Env → Prop) (j : Nat) (Q : Fl → Env → Prop) (x : D) (ρ : Env) : Prop := match setT t x ρ with
  | some ρ2 => (exec cf b ρ2).W (fK I j Q)
  | none => False
theorem fT_nm {i : Nat} {b : Sm} {I : Nat → Env → Prop} {j : Nat} {Q : Fl → Env → Prop} {x : D} : fT cf (.nm i) b I j Q x ρ = (exec cf b (st ρ i (some (x, 0)))).W (fK I j Q) := rfl
theorem forL_W {t : Tg} {b : Sm} {I : Nat → Env → Prop} {Q : Fl → Env → Prop} : ∀ (xs : List D) (i : Nat) (ρ : Env), I i ρ → (∀ j x ρ, xs[j]? = some x → I (i + j) ρ → fT cf t b I (i + j) Q x ρ) → (∀ ρ, I (i + xs.length) ρ → Q .nx ρ) →
    (forL (fun x ρ => match setT t x ρ with | some ρ2 => exec cf b ρ2 | none => .stk) xs ρ).W Q
  | [], i, ρ, hi, _, he => he ρ hi
  | x :: xs, i, ρ, hi, hs, he => by
    have h := hs 0 x ρ rfl hi
    unfold fT at h
    rw [forL]
    split at h
    · rename_i ρ2 e
      obtain ⟨fl, ρ3, e3, q⟩ := W_inv h
      simp only [e, e3, bind_ok]
      have next : I (i + 0 + 1) ρ3 → (forL (fun x ρ => match setT t x ρ with | some ρ2 => exec cf b ρ2 | none => .stk) xs ρ3).W Q := fun hi' => by
        refine forL_W xs (i + 1) ρ3 hi' (fun j y ρ hj hI => ?_) (fun ρ hI => he ρ (by rw [List.length_cons]; rw [show i + (xs.length + 1) = i + 1 + xs.length by omega]; exact hI))
        have := hs (j + 1) y ρ (by simpa using hj) (by rw [show i + (j + 1) = i + 1 + j by omega]; exact hI)
        rw [show i + (j + 1) = i + 1 + j by omega] at this
        exact this
      cases fl with
      | nx => exact next q
      | ct => exact next q
      | bk => exact q
      | rt v => exact q
    · exact h.elim
theorem W_for {t : Tg} {it : Ex} {b : Sm} {ρ1 : Env} {xs : List D} {Q : Fl → Env → Prop} (I : Nat → Env → Prop) (h : evI cf it ρ = .ok xs ρ1) (h0 : I 0 ρ1) (hs : ∀ j x ρ, xs[j]? = some x → I j ρ → fT cf t b I j Q x ρ) (he : ∀ ρ, I xs.length ρ → Q .nx ρ) :
    (exec cf (.fors none t it b) ρ).W Q := by
  rw [exec_fors h]
  refine forL_W xs 0 ρ1 h0 (fun j x ρ hx hI => ?_) fun ρ hI => he ρ (by simpa using hI)
  rw [Nat.zero_add] at hI ⊢
  exact hs j x ρ hx hI
end
/-! ### calls -/
theorem callN_W {defs : List (Str × Df)} {con : List D} {fuel k : Nat} {f : Str} {df : Df} {args : List Sl} {ρ0 : Env} {R : Sl → List (Option Sl) → Prop} (h : defs.lookup f = some df) (hl : args.length = df.np) (h0 : args.map some ++ List.replicate (df.nl - df.np) none = ρ0)
    (hb : (exec ⟨callN defs con fuel k, con, fuel⟩ df.body ρ0).W fun fl ρ => match fl with | .rt v => R v (outsOf df ρ) | .nx => R (.non, 0) (outsOf df ρ) | _ => False) (hm : isMk df.body = false := by rfl) (hr : rcOk df.rc args = true := by rfl) :
    ∃ v outs, callN defs con fuel (k + 1) f args = .ok v outs ∧ R v outs := by
  obtain ⟨fl, ρ, e, q⟩ := W_inv hb
  rw [callN]
  simp only [h, hm, Bool.false_eq_true, if_false, hr, if_true]
  unfold runDf
  rw [if_pos hl, h0, e]
  cases fl with
  | rt v => exact ⟨v, _, rfl, q⟩
  | nx => exact ⟨_, _, rfl, q⟩
  | bk => exact q.elim
  | ct => exact q.elim
end Pi
/-! Pi30: plain data: their texts, their ==. -/
namespace Pi
open PySem L2
theorem szl0 {α : Type} : decide (([] : List α).length ≤ sizeLine) = true := decide_eq_true (show 0 ≤ sizeLine by decide)
theorem szl1 {α : Type} {x0 : α} : decide (([x0] : List α).length ≤ sizeLine) = true := decide_eq_true (show 1 ≤ sizeLine by decide)
theorem szl2 {α : Type} {x0 x1 : α} : decide (([x0, x1] : List α).length ≤ sizeLine) = true := decide_eq_true (show 2 ≤ sizeLine by decide)
theorem szl3 {α : Type} {x0 x1 x2 : α} : decide (([x0, x1, x2] : List α).length ≤ sizeLine) = true := decide_eq_true (show 3 ≤ sizeLine by decide)
theorem szl4 {α : Type} {x0 x1 x2 x3 : α} : decide (([x0, x1, x2, x3] : List α).length ≤ sizeLine) = true := decide_eq_true (show 4 ≤ sizeLine by decide)
theorem szl5 {α : Type} {x0 x1 x2 x3 x4 : α} : decide (([x0, x1, x2, x3, x4] : List α).length ≤ sizeLine) = true := decide_eq_true (show 5 ≤ sizeLine by decide)
theorem szl6 {α : Type} {x0 x1 x2 x3 x4 x5 : α} : decide (([x0, x1, x2, x3, x4, x5] : List α).length ≤ sizeLine) = true := decide_eq_true (show 6 ≤ sizeLine by decide)
theorem szl7 {α : Type} {x0 x1 x2 x3 x4 x5 x6 : α} : decide (([x0, x1, x2, x3, x4, x5, x6] : List α).length ≤ sizeLine) = true := decide_eq_true (show 7 ≤ sizeLine by decide)
theorem szl8 {α : Type} {x0 x1 x2 x3 x4 x5 x6 x7 : α} : decide (([x0, x1, x2, x3, x4, x5, x6, x7] : List α).length ≤ sizeLine) = true := decide_eq_true (show 8 ≤ sizeLine by decide)
theorem szl9 {α : Type} {x0 x1 x2 x3 x4 x5 x6 x7 x8 : α} : decide (([x0, x1, x2, x3, x4, x5, x6, x7, x8] : List α).length ≤ sizeLine) = true := decide_eq_true (show 9 ≤ sizeLine by decide)
theorem szl10 {α : Type} {x0 x1 x2 x3 x4 x5 x6 x7 x8 x9 : α} : decide (([x0, x1, x2, x3, x4, x5, x6, x7, x8, x9] : List α).length ≤ sizeLine) = true := decide_eq_true (show 10 ≤ sizeLine by decide)
theorem szl11 {α : Type} {x0 x1 x2 x3 x4 x5 x6 x7 x8 x9 x10 : α} : decide (([x0, x1, x2, x3, x4, x5, x6, x7, x8, x9, x10] : List α).length ≤ sizeLine) = true := decide_eq_true (show 11 ≤ sizeLine by decide)
theorem szl12 {α : Type} {x0 x1 x2 x3 x4 x5 x6 x7 x8 x9 x10 x11 : α} : decide (([x0, x1, x2, x3, x4, x5, x6, x7, x8, x9, x10, x11] : List α).length ≤ sizeLine) = true := decide_eq_true (show 12 ≤ sizeLine by decide)
theorem szl13 {α : Type} {x0 x1 x2 x3 x4 x5 x6 x7 x8 x9 x10 x11 x12 : α} : decide (([x0, x1, x2, x3, x4, x5, x6, x7, x8, x9, x10, x11, x12] : List α).length ≤ sizeLine) = true := decide_eq_true (show 13 ≤ sizeLine by decide)
theorem szl14 {α : Type} {x0 x1 x2 x3 x4 x5 x6 x7 x8 x9 x10 x11 x12 x13 : α} : decide (([x0, x1, x2, x3, x4, x5, x6, x7, x8, x9, x10, x11, x12, x13] : List α).length ≤ sizeLine) = true := decide_eq_true (show 14 ≤ sizeLine by decide)
theorem evA_one {cf : Cf} {a : Ex} {ρ ρ1 : Env} {x : Sl} (ha : ∀ i, a ≠ .lend i) (h : ev cf a ρ = .ok x ρ1) : evA cf (.cons a .nil) ρ = .ok [.val x] ρ1 := by
  rw [evA]
  · rw [h]; simp only [bind_ok, evA]
  · exact ha
theorem evA_two {cf : Cf} {a b : Ex} {ρ ρ1 ρ2 : Env} {x y : Sl} (ha : ∀ i, a ≠ .lend i) (hb : ∀ i, b ≠ .lend i) (h : ev cf a ρ = .ok x ρ1) (h2 : ev cf b ρ1 = .ok y ρ2) : evA cf (.cons a (.cons b .nil)) ρ = .ok [.val x, .val y] ρ2 := by
  rw [evA]
  · rw [h, bind_ok, evA_one hb h2]; rfl
  · exact ha
mutual
/-- ints of at most 300 figures, None, bools, tuples and lists of such -/
def plR : D → Bool
  | .non => true
  | .bl _ => true
  | .int i => decide (i.natAbs < 10 ^ 300)
  | .tup l => plRL l
  | .lst l => plRL l
  | _ => false
def plRL : List D → Bool
  | [] => true
  | x :: r => plR x && plRL r
end
mutual
/-- a bound of the text -/
def szR : D → Nat
  | .tup l => szRL l + 3
  | .lst l => szRL l + 3
  | _ => 310
def szRL : List D → Nat
  | [] => 0
  | x :: r => szR x + 2 + szRL r
end
mutual
def dpR : D → Nat
  | .tup l => dpRL l + 1
  | .lst l => dpRL l + 1
  | _ => 0
def dpRL : List D → Nat
  | [] => 0
  | x :: r => max (dpR x) (dpRL r)
end
theorem int_len300 {x : Int} (h : x.natAbs < 10 ^ 300) : (PyData.int x).shown.length ≤ 302 := by
  have := int_text_length_le10 (a := x) (k := 300) (by decide) h
  show (Str.ofString (toString x)).length ≤ 302
  rw [ofString_length]; omega
theorem log_300 {x : Nat} (h : x < 10 ^ 300) : x.log2 < 1920 := by
  by_cases h0 : x = 0
  · rw [h0]; decide
  · exact (Nat.log2_lt h0).mpr (Nat.lt_of_lt_of_le h (by decide +kernel))
structure PlOk (d : D) (p : PyData) : Prop where
  to : toPy d = some p
  shw : p.showable = true
  nd : p.hasDict = false
  len : p.shown.length ≤ szR d
  lay : p.canLay0 = true
  dep : p.depth ≤ dpR d
  rfl' : PyData.eqv p p = true
structure PlOkL (l : List D) (ps : List PyData) : Prop where
  to : toPyL l = some ps
  shw : PyData.showableAll ps = true
  nd : PyData.hasDictAll ps = false
  len : piled (PyData.shownAll ps) ≤ szRL l
  lay : PyData.canLayAll0 ps = true
  dep : PyData.depthAll ps ≤ dpRL l
  rfl' : PyData.eqvAll ps ps = true
theorem piled_sum (ts : List Str) : piled ts = (ts.map (·.length)).sum + 2 * ts.length := by
  induction ts with
  | nil => rfl
  | cons t ts ih => rw [piled_cons, ih]; simp; omega
theorem listText_le (ts : List Str) : (listText ts).length ≤ piled ts + 3 := by
  have := listText_len_le ts
  rw [piled_sum]; omega
mutual
theorem pl_ok : ∀ (d : D), plR d = true → ∃ p, PlOk d p
  | .non, _ => ⟨.none, rfl, rfl, rfl, by decide, by simp [PyData.canLay0], by simp [PyData.depth, dpR], rfl⟩
  | .bl b, _ => ⟨.bool b, rfl, rfl, rfl, by cases b <;> decide, by simp [PyData.canLay0], by simp [PyData.depth, dpR], by simp [PyData.eqv]⟩
  | .int i, h => by
    have h1 : i.natAbs < 10 ^ 300 := by simpa only [plR, decide_eq_true_eq] using h
    refine ⟨.int i, rfl, ?_, rfl, ?_, by simp [PyData.canLay0], by simp [PyData.depth, dpR], by simp [PyData.eqv]⟩
    · simp only [PyData.showable, decide_eq_true_eq]; exact log_300 h1
    · have := int_len300 h1
      exact Nat.le_trans this (by simp [szR])
  | .tup l, h => by
    obtain ⟨ps, o⟩ := pl_okL l (by simpa only [plR] using h)
    refine ⟨.tuple ps, by simp only [toPy, o.to, Option.map_some], by simpa only [PyData.showable] using o.shw, by simpa only [PyData.hasDict] using o.nd, ?_, by simpa only [PyData.canLay0] using o.lay, ?_, by simpa only [PyData.eqv] using o.rfl'⟩
    · have := tupleText_le (PyData.shownAll ps)
      have := o.len
      show (tupleText _).length ≤ _
      simp only [szR]; omega
    · have := o.dep
      simp only [PyData.depth, dpR]; omega
  | .lst l, h => by
    obtain ⟨ps, o⟩ := pl_okL l (by simpa only [plR] using h)
    refine ⟨.list ps, by simp only [toPy, o.to, Option.map_some], by simpa only [PyData.showable] using o.shw, by simpa only [PyData.hasDict] using o.nd, ?_, by simpa only [PyData.canLay0] using o.lay, ?_, by simpa only [PyData.eqv] using o.rfl'⟩
    · have := listText_le (PyData.shownAll ps)
      have := o.len
      show (listText _).length ≤ _
      simp only [szR]; omega
    · have := o.dep
      simp only [PyData.depth, dpR]; omega
  | .str _, h => by simp [plR] at h
  | .ctup _, h => by simp [plR] at h
  | .dk _, h => by simp [plR] at h
  | .dt _, h => by simp [plR] at h
  | .ins _ _, h => by simp [plR] at h
  | .ty _, h => by simp [plR] at h
  | .scr _, h => by simp [plR] at h
theorem pl_okL : ∀ (l : List D), plRL l = true → ∃ ps, PlOkL l ps
  | [], _ => ⟨[], rfl, rfl, rfl, by simp [PyData.shownAll, piled, szRL], by simp [PyData.canLayAll0], by simp [PyData.depthAll], rfl⟩
  | x :: r, h => by
    simp only [plRL, Bool.and_eq_true] at h
    obtain ⟨p, o⟩ := pl_ok x h.1
    obtain ⟨ps, os⟩ := pl_okL r h.2
    refine ⟨p :: ps, by simp only [toPyL, o.to, os.to], ?_, ?_, ?_, ?_, ?_, ?_⟩
    · simp only [PyData.showableAll, o.shw, os.shw, Bool.and_self]
    · simp only [PyData.hasDictAll, o.nd, os.nd, Bool.or_self]
    · have := o.len
      have := os.len
      simp only [PyData.shownAll, piled_cons, szRL]; omega
    · simp only [PyData.canLayAll0, o.lay, os.lay, Bool.and_self]
    · have := o.dep
      have := os.dep
      simp only [PyData.depthAll, dpRL]; omega
    · simp only [PyData.eqvAll, o.rfl', os.rfl', Bool.and_self]
end
/-- the text of plain data -/
theorem repr_pl {d : D} (h : plR d = true) (h1 : szR d ≤ sizeLine) (h2 : dpR d ≤ 60) : ∃ s, bltD .repr [d] = some (.str s) := by
  obtain ⟨p, o⟩ := pl_ok d h
  refine ⟨p.shown, ?_⟩
  show (reprD d).map D.str = _
  have h3 : p.depth ≤ 60 := Nat.le_trans o.dep h2
  have h4 : p.shown.length ≤ sizeLine := Nat.le_trans o.len h1
  simp only [reprD, o.to, o.shw, decide_eq_true h3, decide_eq_true h4, o.nd, Bool.and_self, Bool.not_false, Bool.true_or, if_true, Option.map_some]
theorem scal_none : ∀ (d : D), scalD d d = none ∨ scalD d d = some true := by
  intro d
  cases d <;> simp [scalD]
theorem eqD_pl {d : D} (h : plR d = true) (h2 : dpR d ≤ 60) : eqD d d = some true := by
  obtain ⟨p, o⟩ := pl_ok d h
  have h3 : p.depth ≤ 64 := Nat.le_trans o.dep (by omega)
  have h4 : SeqAt.shaped p = true := by simp only [SeqAt.shaped, o.lay, decide_eq_true h3, Bool.and_self]
  unfold eqD
  rcases scal_none d with e | e
  · simp only [e, o.to, h4, Bool.and_self, if_true, o.rfl']
  · rw [e]
theorem ne_pl {d : D} (h : plR d = true) (h2 : dpR d ≤ 60) : cmpD .NotEq d d = some false := by
  show (eqD d d).map (!·) = _
  rw [eqD_pl h h2]; rfl
theorem eqq_pl {d : D} (h : plR d = true) (h2 : dpR d ≤ 60) : cmpD .Eq d d = some true := eqD_pl h h2
theorem ne_strS {s : Str} : cmpD .NotEq (.str s) (.str s) = some false := by
  simp [cmpD, eqD, scalD]
/-- == of tuples of ints -/
theorem eqv_ints : ∀ (l m : List Int), PyData.eqvAll (l.map .int) (m.map .int) = decide (l = m)
  | [], [] => by simp [PyData.eqvAll]
  | [], _ :: _ => by simp [PyData.eqvAll]
  | _ :: _, [] => by simp [PyData.eqvAll]
  | x :: l, y :: m => by
    simp only [List.map_cons, PyData.eqvAll, PyData.eqv, eqv_ints l m]
    by_cases e : x = y
    · subst e; simp
    · simp [e]
theorem eqD_tupI (l m : List Int) : eqD (tupI l) (tupI m) = some (decide (l = m)) := by
  have sh : ∀ l : List Int, SeqAt.shaped (.tuple (l.map .int)) = true := fun l => by simp [SeqAt.shaped, PyData.canLay0, canLay_ints, PyData.depth, depth_ints]
  have h1 : toPy (tupI l) = some (.tuple (l.map .int)) := toPy_ints l
  have h2 : toPy (tupI m) = some (.tuple (m.map .int)) := toPy_ints m
  unfold eqD
  rw [h1, h2]
  simp only [tupI, scalD, sh, Bool.and_self, if_true, PyData.eqv, eqv_ints]
theorem ne_tupI (l m : List Int) : cmpD .NotEq (tupI l) (tupI m) = some (!decide (l = m)) := by
  show (eqD _ _).map (!·) = _
  rw [eqD_tupI]; rfl
end Pi
/-! Pi31: sizes of ints. -/
namespace Pi
open PySem L2
def Sz (k : Nat) (i : Int) : Prop := i.natAbs < 2 ^ k
section
variable {k l : Nat} {i j : Int}
theorem Sz.mul (h : Sz k i) (h2 : Sz l j) : Sz (k + l) (i * j) := by
  unfold Sz at *
  rw [Int.natAbs_mul, Nat.pow_add]
  exact Nat.mul_lt_mul'' h h2
theorem Sz.mono (h : Sz k i) (hk : k ≤ l) : Sz l i := Nat.lt_of_lt_of_le h (Nat.pow_le_pow_right (by decide) hk)
theorem Sz.add (h : Sz k i) (h2 : Sz l j) : Sz (max k l + 1) (i + j) := by
  have a := h.mono (Nat.le_max_left k l)
  have b := h2.mono (Nat.le_max_right k l)
  unfold Sz at *
  rw [Nat.pow_succ]; omega
theorem Sz.sub (h : Sz k i) (h2 : Sz l j) : Sz (max k l + 1) (i - j) := by
  have a := h.mono (Nat.le_max_left k l)
  have b := h2.mono (Nat.le_max_right k l)
  unfold Sz at *
  rw [Nat.pow_succ]; omega
theorem Sz.neg (h : Sz k i) : Sz k (-i) := by
  unfold Sz at *; omega
theorem Sz.log (h : Sz k i) : i.natAbs.log2 ≤ k := by
  by_cases h0 : i.natAbs = 0
  · rw [h0]; exact Nat.zero_le _
  · exact Nat.le_of_lt ((Nat.log2_lt h0).mpr h)
theorem Sz.ok (h : Sz k i) (h2 : Sz l j) (hk : k + l < 1000000) : mulOk i j = true := by
  have a := h.log
  have b := h2.log
  simp only [mulOk, Bool.or_eq_true, decide_eq_true_eq]
  exact .inr (by omega)
theorem sz_le {n : Nat} (h : i.natAbs ≤ n) (h2 : n < 2 ^ k) : Sz k i := Nat.lt_of_le_of_lt h h2
theorem sz2 : Sz 2 2 := by unfold Sz; decide
theorem sz3 : Sz 2 3 := by unfold Sz; decide
theorem sz4 : Sz 3 4 := by unfold Sz; decide
end
section
variable {x y z w v : Int}
theorem mk2 (h1 : Sz 200 x) (h2 : Sz 200 y) : mulOk x y = true := h1.ok h2 (by decide)
theorem mk3 (h1 : Sz 200 x) (h2 : Sz 200 y) (h3 : Sz 200 z) : mulOk (x * y) z = true := (h1.mul h2).ok h3 (by decide)
theorem mk2l (h1 : Sz 200 x) : mulOk 2 x = true := sz2.ok h1 (by decide)
theorem mk4l (h1 : Sz 200 x) : mulOk 4 x = true := sz4.ok h1 (by decide)
theorem mk3l (h1 : Sz 200 x) (h2 : Sz 200 y) : mulOk (2 * x) y = true := (sz2.mul h1).ok h2 (by decide)
theorem mk34 (h1 : Sz 200 x) (h2 : Sz 200 y) : mulOk (4 * x) y = true := (sz4.mul h1).ok h2 (by decide)
theorem mk5 (h1 : Sz 200 x) (h2 : Sz 200 y) (h3 : Sz 200 z) : mulOk (2 * x * y) z = true := ((sz2.mul h1).mul h2).ok h3 (by decide)
theorem mk6 (h1 : Sz 200 x) (h2 : Sz 200 y) (h3 : Sz 200 z) (h4 : Sz 200 w) (h5 : Sz 200 v) : mulOk x (y * z + w * v) = true := h1.ok ((h2.mul h3).add (h4.mul h5)) (by decide)
end
/-- tuples of ints under the pattern of a target -/
theorem in01 {r : Int} : cmpD .In (.int r) (.tup [.int 0, .int 1]) = some (r == 0 || r == 1) := by
  have e1 : ((0 : Int) == r) = (r == 0) := BEq.comm
  have e2 : ((1 : Int) == r) = (r == 1) := BEq.comm
  simp [cmpD, inD, flatD, flatL, memF, eqF, e1, e2]
theorem neg_i {cf : Cf} {i : Int} {ρ : Env} : ev cf (.neg (.int i)) ρ = .ok (.int (-i), 0) ρ := by simp only [ev, bind_ok]
theorem ix_n {l : List D} {n : Nat} {d : D} (h : l[n]? = some d) : ixD (.tup l) (.int (n : Int)) = some d := atI_nat h
end Pi
namespace Pi.K37
open PySem L2 PySem.Spec PyProof.Rows
set_option maxHeartbeats 4000000
def top (i : Nat) : Stmt := PySem.Challenge.pw_craterbeat_k37_matrices_lead_forms.main.body.getD i (.Pass ⟨0, 0, 0, 0⟩)
/-- 0 thing -/
def d_is_integer : Df := ⟨1, 1, [], (.ret (.and (.isin (.var 0) .int) (.not (.isin (.var 0) .bool)))), none⟩
def e_is_integer : Ent := ⟨"is_integer", d_is_integer, ["thing"], ["thing"], top 5⟩
/-- 0 thing, 1 many, 2 part -/
def d_are_integers : Df := ⟨2, 3, [], (.seq (.ifs (.tor (.tnot (.tval (.isin (.var 0) .tuple))) (.tcmp .NotEq (.blt .len (.cons (.var 0) .nil)) (.var 1)))
    (.ret (.bl false))
    .skip)
    (.ret (.blt .all (.cons (.lc 0 [2] (.call "is_integer" (.cons (.var 2) .nil) [] []) (.nm 2) (.ival (.var 0)) .tyes) .nil)))), none⟩
def e_are_integers : Ent := ⟨"are_integers", d_are_integers, ["thing", "many", "part"], ["thing", "many"], top 6⟩
/-- 0 one, 1 other -/
def d_common_divisor : Df := ⟨2, 2, [], (.seq (.asg (.nm 0) (.blt .abs (.cons (.var 0) .nil)))
    (.seq (.asg (.nm 1) (.blt .abs (.cons (.var 1) .nil)))
    (.seq (.whl (.tval (.var 1))
    (.par [0, 1] (.cons (.var 1) (.cons (.op2 .Mod (.var 0) (.var 1)) .nil))))
    (.ret (.mv 0))))), none⟩
def e_common_divisor : Ent := ⟨"common_divisor", d_common_divisor, ["one", "other"], ["one", "other"], top 7⟩
/-- 0 thing -/
def d_is_discriminant : Df := ⟨1, 1, [], (.ret (.and (.call "is_integer" (.cons (.var 0) .nil) [] []) (.and (.chain .LtE .LtE (.con 0) (.var 0) (.neg (.int 3))) (.cmp .In (.op2 .Mod (.var 0) (.int 4)) (.tup 0 (.cons (.int 0) (.cons (.int 1) .nil))))))), none⟩
def e_is_discriminant : Ent := ⟨"is_discriminant", d_is_discriminant, ["thing"], ["thing"], top 10⟩
/-- 0 form, 1 a, 2 b, 3 c -/
def d_discriminant_at : Df := ⟨1, 4, [], (.seq (.asg (.tp [1, 2, 3]) (.var 0))
    (.ret (.op2 .Sub (.op2 .Mult (.var 2) (.var 2)) (.op2 .Mult (.op2 .Mult (.int 4) (.var 1)) (.var 3))))), none⟩
def e_discriminant_at : Ent := ⟨"discriminant_at", d_discriminant_at, ["form", "a", "b", "c"], ["form"], top 11⟩
/-- 0 thing, 1 a, 2 b, 3 c -/
def d_is_form : Df := ⟨1, 4, [], (.seq (.ifs (.tnot (.tval (.call "are_integers" (.cons (.var 0) (.cons (.int 3) .nil)) [] [])))
    (.ret (.bl false))
    .skip)
    (.seq (.asg (.tp [1, 2, 3]) (.var 0))
    (.seq (.ifs (.tor (.tcmp .LtE (.var 1) (.int 0)) (.tnot (.tval (.call "is_discriminant" (.cons (.op2 .Sub (.op2 .Mult (.var 2) (.var 2)) (.op2 .Mult (.op2 .Mult (.int 4) (.var 1)) (.var 3))) .nil) [] []))))
    (.ret (.bl false))
    .skip)
    (.ret (.cmp .Eq (.call "common_divisor" (.cons (.call "common_divisor" (.cons (.var 1) (.cons (.var 2) .nil)) [] []) (.cons (.var 3) .nil)) [] []) (.int 1)))))), none⟩
def e_is_form : Ent := ⟨"is_form", d_is_form, ["thing", "a", "b", "c"], ["thing"], top 12⟩
/-- 0 thing -/
def d_is_matrix : Df := ⟨1, 1, [], (.ret (.and (.call "are_integers" (.cons (.var 0) (.cons (.int 4) .nil)) [] []) (.cmp .Eq (.op2 .Sub (.op2 .Mult (.ix (.var 0) (.int 0)) (.ix (.var 0) (.int 3))) (.op2 .Mult (.ix (.var 0) (.int 1)) (.ix (.var 0) (.int 2)))) (.int 1)))), none⟩
def e_is_matrix : Ent := ⟨"is_matrix", d_is_matrix, ["thing"], ["thing"], top 13⟩
/-- 0 form, 1 matrix, 2 a, 3 b, 4 c, 5 g, 6 h, 7 i, 8 j, 9 first, 10 middle, 11 last -/
def d_lead : Df := ⟨2, 12, [], (.seq (.asg (.tp [2, 3, 4]) (.var 0))
    (.seq (.asg (.tp [5, 6, 7, 8]) (.var 1))
    (.seq (.asg (.nm 9) (.op2 .Add (.op2 .Add (.op2 .Mult (.op2 .Mult (.var 2) (.var 5)) (.var 5)) (.op2 .Mult (.op2 .Mult (.var 3) (.var 5)) (.var 7))) (.op2 .Mult (.op2 .Mult (.var 4) (.var 7)) (.var 7))))
    (.seq (.asg (.nm 10) (.op2 .Add (.op2 .Add (.op2 .Mult (.op2 .Mult (.op2 .Mult (.int 2) (.var 2)) (.var 5)) (.var 6)) (.op2 .Mult (.var 3) (.op2 .Add (.op2 .Mult (.var 5) (.var 8)) (.op2 .Mult (.var 6) (.var 7))))) (.op2 .Mult (.op2 .Mult (.op2 .Mult (.int 2) (.var 4)) (.var 7)) (.var 8))))
    (.seq (.asg (.nm 11) (.op2 .Add (.op2 .Add (.op2 .Mult (.op2 .Mult (.var 2) (.var 6)) (.var 6)) (.op2 .Mult (.op2 .Mult (.var 3) (.var 6)) (.var 8))) (.op2 .Mult (.op2 .Mult (.var 4) (.var 8)) (.var 8))))
    (.ret (.tup 0 (.cons (.var 9) (.cons (.var 10) (.cons (.var 11) .nil)))))))))), none⟩
def e_lead : Ent := ⟨"lead", d_lead, ["form", "matrix", "a", "b", "c", "g", "h", "i", "j", "first", "middle", "last"], ["form", "matrix"], top 14⟩
/-- 0 one, 1 other, 2 g, 3 h, 4 i, 5 j, 6 g2, 7 h2, 8 i2, 9 j2 -/
def d_matrix_times : Df := ⟨2, 10, [], (.seq (.asg (.tp [2, 3, 4, 5]) (.var 0))
    (.seq (.asg (.tp [6, 7, 8, 9]) (.var 1))
    (.ret (.tup 0 (.cons (.op2 .Add (.op2 .Mult (.var 2) (.var 6)) (.op2 .Mult (.var 3) (.var 8))) (.cons (.op2 .Add (.op2 .Mult (.var 2) (.var 7)) (.op2 .Mult (.var 3) (.var 9))) (.cons (.op2 .Add (.op2 .Mult (.var 4) (.var 6)) (.op2 .Mult (.var 5) (.var 8))) (.cons (.op2 .Add (.op2 .Mult (.var 4) (.var 7)) (.op2 .Mult (.var 5) (.var 9))) .nil)))))))), none⟩
def e_matrix_times : Ent := ⟨"matrix_times", d_matrix_times, ["one", "other", "g", "h", "i", "j", "g2", "h2", "i2", "j2"], ["one", "other"], top 15⟩
/-- 0 form, 1 matrix, 2 a, 3 b, 4 c, 5 shift, 6 step -/
def d_reduction : Df := ⟨1, 7, [], (.seq (.asg (.nm 1) (.tup 0 (.cons (.int 1) (.cons (.int 0) (.cons (.int 0) (.cons (.int 1) .nil))))))
    (.whl (.tval (.bl true))
    (.seq (.asg (.tp [2, 3, 4]) (.var 0))
    (.seq (.asg (.nm 5) (.op2 .FloorDiv (.op2 .Sub (.var 2) (.var 3)) (.op2 .Mult (.int 2) (.var 2))))
    (.seq (.ifs (.tval (.var 5))
    (.asg (.nm 6) (.tup 0 (.cons (.int 1) (.cons (.var 5) (.cons (.int 0) (.cons (.int 1) .nil))))))
    (.ifs (.tor (.tcmp .Gt (.var 2) (.var 4)) (.tand (.tcmp .Eq (.var 2) (.var 4)) (.tcmp .Lt (.var 3) (.int 0))))
    (.asg (.nm 6) (.tup 0 (.cons (.int 0) (.cons (.neg (.int 1)) (.cons (.int 1) (.cons (.int 0) .nil))))))
    (.ret (.tup 0 (.cons (.var 0) (.cons (.var 1) .nil))))))
    (.seq (.asg (.nm 0) (.call "lead" (.cons (.var 0) (.cons (.var 6) .nil)) [] []))
    (.asg (.nm 1) (.call "matrix_times" (.cons (.var 1) (.cons (.var 6) .nil)) [] [])))))))), none⟩
def e_reduction : Ent := ⟨"reduction", d_reduction, ["form", "matrix", "a", "b", "c", "shift", "step"], ["form"], top 16⟩
/-- 0 form -/
def d_discriminant_of : Df := ⟨1, 1, [], (.seq (.ifs (.tnot (.tval (.call "is_form" (.cons (.var 0) .nil) [] [])))
    .never
    .skip)
    (.ret (.call "discriminant_at" (.cons (.var 0) .nil) [] []))), none⟩
def e_discriminant_of : Ent := ⟨"discriminant_of", d_discriminant_of, ["form"], ["form"], top 17⟩
/-- 0 form, 1 x, 2 y, 3 a, 4 b, 5 c -/
def d_value_at : Df := ⟨3, 6, [], (.seq (.ifs (.tnot (.tval (.call "is_form" (.cons (.var 0) .nil) [] [])))
    .never
    .skip)
    (.seq (.asg (.tp [3, 4, 5]) (.var 0))
    (.ret (.op2 .Add (.op2 .Add (.op2 .Mult (.op2 .Mult (.var 3) (.var 1)) (.var 1)) (.op2 .Mult (.op2 .Mult (.var 4) (.var 1)) (.var 2))) (.op2 .Mult (.op2 .Mult (.var 5) (.var 2)) (.var 2)))))), none⟩
def e_value_at : Ent := ⟨"value_at", d_value_at, ["form", "x", "y", "a", "b", "c"], ["form", "x", "y"], top 18⟩
/-- 0 form, 1 matrix -/
def d_led_form : Df := ⟨2, 2, [], (.seq (.ifs (.tnot (.tval (.call "is_form" (.cons (.var 0) .nil) [] [])))
    .never
    .skip)
    (.seq (.ifs (.tnot (.tval (.call "is_matrix" (.cons (.var 1) .nil) [] [])))
    .never
    .skip)
    (.ret (.call "lead" (.cons (.var 0) (.cons (.var 1) .nil)) [] [])))), none⟩
def e_led_form : Ent := ⟨"led_form", d_led_form, ["form", "matrix"], ["form", "matrix"], top 19⟩
/-- 0 one, 1 other -/
def d_matrix_product : Df := ⟨2, 2, [], (.seq (.ifs (.tnot (.tval (.call "is_matrix" (.cons (.var 0) .nil) [] [])))
    .never
    .skip)
    (.seq (.ifs (.tnot (.tval (.call "is_matrix" (.cons (.var 1) .nil) [] [])))
    .never
    .skip)
    (.ret (.call "matrix_times" (.cons (.var 0) (.cons (.var 1) .nil)) [] [])))), none⟩
def e_matrix_product : Ent := ⟨"matrix_product", d_matrix_product, ["one", "other"], ["one", "other"], top 20⟩
/-- 0 form -/
def d_reduced : Df := ⟨1, 1, [], (.seq (.ifs (.tnot (.tval (.call "is_form" (.cons (.var 0) .nil) [] [])))
    .never
    .skip)
    (.ret (.ix (.call "reduction" (.cons (.var 0) .nil) [] []) (.int 0)))), none⟩
def e_reduced : Ent := ⟨"reduced", d_reduced, ["form"], ["form"], top 21⟩
/-- 0 script, 1 rest, 2 mixed, 3 cell -/
def d__law_deck : Df := ⟨1, 4, [], (.seq (.par [1, 2] (.cons (.lc 0 [3] (.op2 .Mod (.blt .int (.cons (.var 3) .nil)) (.op2 .Add (.op2 .Pow (.int 10) (.int 24)) (.int 7))) (.nm 3) (.ival (.sl (.var 0) .nil (.ival (.int 63)))) .tyes) (.cons (.int 1087637) .nil)))
    (.seq (.fors none (.nm 3) (.ival (.var 1))
    (.asg (.nm 2) (.op2 .Mod (.blt .int (.cons (.op2 .Add (.op2 .Add (.op2 .Mult (.var 2) (.int 69621)) (.op2 .Mod (.blt .int (.cons (.var 3) .nil)) (.int 2147483543))) (.int 37)) .nil)) (.int 2147483647))))
    (.ret (.dict 1 (.cons (.str "rest") (.cons (.rev (.var 1)) (.cons (.str "mixed") (.cons (.var 2) (.cons (.str "turn") (.cons (.int 0) .nil)))))))))), none⟩
def e__law_deck : Ent := ⟨"_law_deck", d__law_deck, ["script", "rest", "mixed", "cell"], ["script"], top 23⟩
/-- 0 deck, 1 below, 2 cell, 3 number -/
def d__law_draw : Df := ⟨2, 4, [0], (.seq (.setix 0 (.str "turn") (.q (.op2 .Add (.ix (.var 0) (.str "turn")) (.int 1))))
    (.seq (.ifs (.tq (.tcmp .NotEq (.ix (.var 0) (.str "rest")) (.lst 0 .nil)))
    (.seq (.asg (.nm 2) (.mutk .pop 0 "rest" .nil))
    (.seq (.ifs (.tcmp .GtE (.var 2) (.op2 .Pow (.int 10) (.int 6)))
    (.expr (.mutk .append 0 "rest" (.cons (.op2 .FloorDiv (.var 2) (.blt .max (.cons (.int 2) (.cons (.var 1) .nil)))) .nil)))
    .skip)
    (.ret (.op2 .Mod (.blt .int (.cons (.var 2) .nil)) (.var 1)))))
    .skip)
    (.seq (.asg (.nm 3) (.q (.op2 .Mod (.blt .int (.cons (.op2 .Add (.ix (.var 0) (.str "mixed")) (.op2 .Mult (.op2 .Mult (.int 40692) (.ix (.var 0) (.str "turn"))) (.ix (.var 0) (.str "turn")))) .nil)) (.int 2147483399))))
    (.seq (.asg (.nm 3) (.op2 .Mod (.blt .int (.cons (.op2 .Mult (.var 3) (.var 3)) .nil)) (.int 2147483563)))
    (.ret (.q (.op2 .Mod (.op2 .FloorDiv (.op2 .Mod (.blt .int (.cons (.op2 .Add (.op2 .Mult (.var 3) (.int 39373)) (.op2 .Mult (.ix (.var 0) (.str "turn")) (.int 7919))) .nil)) (.int 2147483629)) (.int 64)) (.var 1)))))))), none⟩
def e__law_draw : Ent := ⟨"_law_draw", d__law_draw, ["deck", "below", "cell", "number"], ["deck", "below"], top 24⟩
/-- 0 deck, 1 some -/
def d__law_pick : Df := ⟨2, 2, [0], (.ret (.ix (.var 1) (.call "_law_draw" (.cons (.lend 0) (.cons (.blt .len (.cons (.var 1) .nil)) .nil)) [] [(0, 0)]))), none⟩
def e__law_pick : Ent := ⟨"_law_pick", d__law_pick, ["deck", "some"], ["deck", "some"], top 25⟩
/-- 0 one, 1 other -/
def d__law_gcd : Df := ⟨2, 2, [], (.seq (.par [0, 1] (.cons (.blt .abs (.cons (.var 0) .nil)) (.cons (.blt .abs (.cons (.var 1) .nil)) .nil)))
    (.seq (.whl (.tcmp .Gt (.var 1) (.int 0))
    (.par [0, 1] (.cons (.var 1) (.cons (.op2 .Mod (.blt .int (.cons (.var 0) .nil)) (.var 1)) .nil))))
    (.ret (.mv 0)))), none⟩
def e__law_gcd : Ent := ⟨"_law_gcd", d__law_gcd, ["one", "other"], ["one", "other"], top 26⟩
/-- 0 deck, 1 way, 2 number, 3 some, 4 factor -/
def d__law_discriminant : Df := ⟨1, 5, [0], (.seq (.asg (.nm 1) (.call "_law_draw" (.cons (.lend 0) (.cons (.int 4) .nil)) [] [(0, 0)]))
    (.seq (.ifs (.tcmp .Eq (.var 1) (.int 0))
    (.asg (.nm 2) (.op2 .Sub (.neg (.int 3)) (.call "_law_draw" (.cons (.lend 0) (.cons (.int 120) .nil)) [] [(0, 0)])))
    (.ifs (.tcmp .Eq (.var 1) (.int 1))
    (.asg (.nm 2) (.op2 .Sub (.neg (.int 3)) (.call "_law_draw" (.cons (.lend 0) (.cons (.int 19998) .nil)) [] [(0, 0)])))
    (.seq (.asg (.nm 3) (.tup 0 (.cons (.neg (.int 3)) (.cons (.neg (.int 4)) (.cons (.neg (.int 7)) (.cons (.neg (.int 8)) (.cons (.neg (.int 11)) (.cons (.neg (.int 15)) (.cons (.neg (.int 20)) (.cons (.neg (.int 23)) (.cons (.neg (.int 24)) (.cons (.neg (.int 35)) (.cons (.neg (.int 47)) (.cons (.neg (.int 84)) (.cons (.neg (.int 163)) (.cons (.neg (.int 231)) .nil))))))))))))))))
    (.seq (.asg (.nm 4) (.call "_law_pick" (.cons (.lend 0) (.cons (.tup 0 (.cons (.int 1) (.cons (.int 2) (.cons (.int 3) (.cons (.int 4) (.cons (.int 5) (.cons (.int 6) (.cons (.int 7) (.cons (.int 8) (.cons (.int 9) (.cons (.int 10) (.cons (.int 12) (.cons (.int 25) .nil))))))))))))) .nil)) [] [(0, 0)]))
    (.asg (.nm 2) (.blt .max (.cons (.neg (.int 20000)) (.cons (.op2 .Mult (.op2 .Mult (.call "_law_pick" (.cons (.lend 0) (.cons (.var 3) .nil)) [] [(0, 0)]) (.var 4)) (.var 4)) .nil))))))))
    (.ret (.op2 .Sub (.var 2) (.ix (.dict 0 (.cons (.int 0) (.cons (.int 0) (.cons (.int 1) (.cons (.int 0) (.cons (.int 2) (.cons (.int 1) (.cons (.int 3) (.cons (.int 2) .nil))))))))) (.op2 .Mod (.blt .int (.cons (.var 2) .nil)) (.int 4))))))), none⟩
def e__law_discriminant : Ent := ⟨"_law_discriminant", d__law_discriminant, ["deck", "way", "number", "some", "factor"], ["deck"], top 27⟩
/-- 0 discriminant, 1 found, 2 b, 3 product, 4 a -/
def d__law_classes : Df := ⟨1, 5, [], (.seq (.par [1, 2] (.cons (.lst 0 .nil) (.cons (.op2 .Mod (.blt .int (.cons (.var 0) .nil)) (.int 2)) .nil)))
    (.seq (.whl (.tcmp .LtE (.op2 .Mult (.op2 .Mult (.int 3) (.var 2)) (.var 2)) (.op2 .Sub (.int 0) (.var 0)))
    (.seq (.asg (.nm 3) (.op2 .FloorDiv (.op2 .Sub (.op2 .Mult (.var 2) (.var 2)) (.var 0)) (.int 4)))
    (.seq (.asg (.nm 4) (.blt .max (.cons (.int 1) (.cons (.var 2) .nil))))
    (.seq (.whl (.tcmp .LtE (.op2 .Mult (.var 4) (.var 4)) (.var 3))
    (.seq (.ifs (.tand (.tcmp .Eq (.op2 .Mod (.blt .int (.cons (.var 3) .nil)) (.var 4)) (.int 0)) (.tcmp .Eq (.call "_law_gcd" (.cons (.call "_law_gcd" (.cons (.var 4) (.cons (.var 2) .nil)) [] []) (.cons (.op2 .FloorDiv (.var 3) (.var 4)) .nil)) [] []) (.int 1)))
    (.seq (.expr (.mutv .append 1 (.cons (.tup 0 (.cons (.var 4) (.cons (.var 2) (.cons (.op2 .FloorDiv (.var 3) (.var 4)) .nil)))) .nil)))
    (.ifs (.tchain3 .Lt .Lt .Lt (.int 0) (.var 2) (.var 4) (.op2 .FloorDiv (.var 3) (.var 4)))
    (.expr (.mutv .append 1 (.cons (.tup 0 (.cons (.var 4) (.cons (.op2 .Sub (.int 0) (.var 2)) (.cons (.op2 .FloorDiv (.var 3) (.var 4)) .nil)))) .nil)))
    .skip))
    .skip)
    (.asg (.nm 4) (.op2 .Add (.var 4) (.int 1)))))
    (.asg (.nm 2) (.op2 .Add (.var 2) (.int 2)))))))
    (.ret (.q (.blt .sorted (.cons (.var 1) .nil)))))), none⟩
def e__law_classes : Ent := ⟨"_law_classes", d__law_classes, ["discriminant", "found", "b", "product", "a"], ["discriminant"], top 28⟩
/-- 0 form, 1 matrix, 2 a, 3 b, 4 c, 5 g, 6 h, 7 i, 8 j, 9 first, 10 last -/
def d__law_led : Df := ⟨2, 11, [], (.seq (.asg (.tn [.tp [2, 3, 4], .tp [5, 6, 7, 8]]) (.tup 0 (.cons (.var 0) (.cons (.var 1) .nil))))
    (.seq (.par [9, 10] (.cons (.op2 .Add (.op2 .Add (.op2 .Mult (.op2 .Mult (.var 2) (.var 5)) (.var 5)) (.op2 .Mult (.op2 .Mult (.var 3) (.var 5)) (.var 7))) (.op2 .Mult (.op2 .Mult (.var 4) (.var 7)) (.var 7))) (.cons (.op2 .Add (.op2 .Add (.op2 .Mult (.op2 .Mult (.var 2) (.var 6)) (.var 6)) (.op2 .Mult (.op2 .Mult (.var 3) (.var 6)) (.var 8))) (.op2 .Mult (.op2 .Mult (.var 4) (.var 8)) (.var 8))) .nil)))
    (.ret (.tup 0 (.cons (.var 9) (.cons (.op2 .Add (.op2 .Add (.op2 .Mult (.op2 .Mult (.op2 .Mult (.int 2) (.var 2)) (.var 5)) (.var 6)) (.op2 .Mult (.var 3) (.op2 .Add (.op2 .Mult (.var 5) (.var 8)) (.op2 .Mult (.var 6) (.var 7))))) (.op2 .Mult (.op2 .Mult (.op2 .Mult (.int 2) (.var 4)) (.var 7)) (.var 8))) (.cons (.var 10) .nil))))))), none⟩
def e__law_led : Ent := ⟨"_law_led", d__law_led, ["form", "matrix", "a", "b", "c", "g", "h", "i", "j", "first", "last"], ["form", "matrix"], top 29⟩
/-- 0 one, 1 other, 2 g, 3 h, 4 i, 5 j, 6 k, 7 m, 8 n, 9 o -/
def d__law_times : Df := ⟨2, 10, [], (.seq (.asg (.tn [.tp [2, 3, 4, 5], .tp [6, 7, 8, 9]]) (.tup 0 (.cons (.var 0) (.cons (.var 1) .nil))))
    (.ret (.tup 0 (.cons (.op2 .Add (.op2 .Mult (.var 2) (.var 6)) (.op2 .Mult (.var 3) (.var 8))) (.cons (.op2 .Add (.op2 .Mult (.var 2) (.var 7)) (.op2 .Mult (.var 3) (.var 9))) (.cons (.op2 .Add (.op2 .Mult (.var 4) (.var 6)) (.op2 .Mult (.var 5) (.var 8))) (.cons (.op2 .Add (.op2 .Mult (.var 4) (.var 7)) (.op2 .Mult (.var 5) (.var 9))) .nil))))))), none⟩
def e__law_times : Ent := ⟨"_law_times", d__law_times, ["one", "other", "g", "h", "i", "j", "k", "m", "n", "o"], ["one", "other"], top 30⟩
/-- 0 deck, 1 many, 2 great, 3 found, 4 turn, 5 way, 6 k -/
def d__law_matrix : Df := ⟨3, 7, [0], (.seq (.asg (.nm 3) (.tup 0 (.cons (.int 1) (.cons (.int 0) (.cons (.int 0) (.cons (.int 1) .nil))))))
    (.seq (.fors none (.nm 4) (.irng1 (.call "_law_draw" (.cons (.lend 0) (.cons (.op2 .Add (.var 1) (.int 1)) .nil)) [] [(0, 0)]))
    (.seq (.par [5, 6] (.cons (.call "_law_draw" (.cons (.lend 0) (.cons (.int 3) .nil)) [] [(0, 0)]) (.cons (.op2 .Sub (.call "_law_draw" (.cons (.lend 0) (.cons (.op2 .Add (.op2 .Mult (.int 2) (.var 2)) (.int 1)) .nil)) [] [(0, 0)]) (.var 2)) .nil)))
    (.asg (.nm 3) (.call "_law_times" (.cons (.var 3) (.cons (.ix (.tup 0 (.cons (.tup 0 (.cons (.int 1) (.cons (.var 6) (.cons (.int 0) (.cons (.int 1) .nil))))) (.cons (.tup 0 (.cons (.int 1) (.cons (.int 0) (.cons (.var 6) (.cons (.int 1) .nil))))) (.cons (.tup 0 (.cons (.int 0) (.cons (.neg (.int 1)) (.cons (.int 1) (.cons (.int 0) .nil))))) .nil)))) (.var 5)) .nil)) [] []))))
    (.ret (.mv 3)))), none⟩
def e__law_matrix : Ent := ⟨"_law_matrix", d__law_matrix, ["deck", "many", "great", "found", "turn", "way", "k"], ["deck", "many", "great"], top 31⟩
/-- 0 deck -/
def d__law_drawn_matrix : Df := ⟨1, 1, [0], (.ret (.ite (.tcmp .Eq (.call "_law_draw" (.cons (.lend 0) (.cons (.int 2) .nil)) [] [(0, 0)]) (.int 0)) (.call "_law_matrix" (.cons (.lend 0) (.cons (.int 6) (.cons (.int 3) .nil))) [] [(0, 0)]) (.call "_law_matrix" (.cons (.lend 0) (.cons (.int 2) (.cons (.int 999) .nil))) [] [(0, 0)]))), none⟩
def e__law_drawn_matrix : Ent := ⟨"_law_drawn_matrix", d__law_drawn_matrix, ["deck"], ["deck"], top 32⟩
/-- 0 deck, 1 number -/
def d__law_integer : Df := ⟨1, 2, [0], (.seq (.asg (.nm 1) (.op2 .Mult (.call "_law_draw" (.cons (.lend 0) (.cons (.call "_law_pick" (.cons (.lend 0) (.cons (.tup 0 (.cons (.int 3) (.cons (.int 20) (.cons (.int 1000) (.cons (.op2 .Pow (.int 10) (.int 6)) .nil))))) .nil)) [] [(0, 0)]) .nil)) [] [(0, 0)]) (.call "_law_pick" (.cons (.lend 0) (.cons (.tup 0 (.cons (.int 1) (.cons (.int 1) (.cons (.op2 .Add (.op2 .Pow (.int 10) (.int 6)) (.int 3)) .nil)))) .nil)) [] [(0, 0)])))
    (.ret (.ite (.tcmp .Eq (.call "_law_draw" (.cons (.lend 0) (.cons (.int 2) .nil)) [] [(0, 0)]) (.int 0)) (.var 1) (.op2 .Sub (.int 0) (.var 1))))), none⟩
def e__law_integer : Ent := ⟨"_law_integer", d__law_integer, ["deck", "number"], ["deck"], top 33⟩
/-- 0 form, 1 x, 2 y -/
def d__law_value : Df := ⟨3, 3, [], (.ret (.op2 .Add (.op2 .Add (.op2 .Mult (.op2 .Mult (.ix (.var 0) (.int 0)) (.var 1)) (.var 1)) (.op2 .Mult (.op2 .Mult (.ix (.var 0) (.int 1)) (.var 1)) (.var 2))) (.op2 .Mult (.op2 .Mult (.ix (.var 0) (.int 2)) (.var 2)) (.var 2)))), none⟩
def e__law_value : Ent := ⟨"_law_value", d__law_value, ["form", "x", "y"], ["form", "x", "y"], top 34⟩
/-- 0 deck, 1 number, 2 form, 3 matrix, 4 due, 5 g, 6 h, 7 i, 8 j, 9 turn, 10 x, 11 y, 12 value, 13 told -/
def d__law_is_led_right : Df := ⟨4, 14, [0], (.seq (.asg (.nm 4) (.call "_law_led" (.cons (.var 2) (.cons (.var 3) .nil)) [] []))
    (.seq (.ifs (.tcmp .NotEq (.blt .repr (.cons (.lst 0 (.cons (.call "led_form" (.cons (.var 2) (.cons (.var 3) .nil)) [] []) (.cons (.call "led_form" (.cons (.var 3) (.cons (.var 2) .nil)) [1, 0] []) .nil))) .nil)) (.blt .repr (.cons (.lst 0 (.cons (.var 4) (.cons (.var 4) .nil))) .nil)))
    (.ret (.bl false))
    .skip)
    (.seq (.ifs (.tor (.tcmp .IsNot (.call "is_form" (.cons (.var 4) .nil) [] []) (.bl true)) (.tor (.tcmp .NotEq (.call "discriminant_of" (.cons (.var 4) .nil) [] []) (.var 1)) (.tcmp .NotEq (.call "reduced" (.cons (.var 4) .nil) [] []) (.call "reduced" (.cons (.var 2) .nil) [] []))))
    (.ret (.bl false))
    .skip)
    (.seq (.asg (.tp [5, 6, 7, 8]) (.var 3))
    (.seq (.fors none (.nm 9) (.irng1 (.int 3))
    (.seq (.par [10, 11] (.cons (.call "_law_integer" (.cons (.lend 0) .nil) [] [(0, 0)]) (.cons (.call "_law_integer" (.cons (.lend 0) .nil) [] [(0, 0)]) .nil)))
    (.seq (.asg (.nm 12) (.call "_law_value" (.cons (.var 2) (.cons (.op2 .Add (.op2 .Mult (.var 5) (.var 10)) (.op2 .Mult (.var 6) (.var 11))) (.cons (.op2 .Add (.op2 .Mult (.var 7) (.var 10)) (.op2 .Mult (.var 8) (.var 11))) .nil))) [] []))
    (.seq (.asg (.nm 13) (.lst 0 (.cons (.call "value_at" (.cons (.var 4) (.cons (.var 10) (.cons (.var 11) .nil))) [] []) (.cons (.call "value_at" (.cons (.var 11) (.cons (.var 10) (.cons (.var 4) .nil))) [2, 1, 0] []) (.cons (.call "value_at" (.cons (.var 2) (.cons (.op2 .Add (.op2 .Mult (.var 5) (.var 10)) (.op2 .Mult (.var 6) (.var 11))) (.cons (.op2 .Add (.op2 .Mult (.var 7) (.var 10)) (.op2 .Mult (.var 8) (.var 11))) .nil))) [] []) .nil)))))
    (.ifs (.tor (.tcmp .NotEq (.blt .repr (.cons (.var 13) .nil)) (.blt .repr (.cons (.op2 .Mult (.lst 0 (.cons (.var 12) .nil)) (.int 3)) .nil))) (.tcmp .NotEq (.cmp .Gt (.var 12) (.int 0)) (.cmp .NotEq (.tup 0 (.cons (.var 10) (.cons (.var 11) .nil))) (.tup 0 (.cons (.int 0) (.cons (.int 0) .nil))))))
    (.ret (.bl false))
    .skip)))))
    (.ret (.and (.cmp .Eq (.call "value_at" (.cons (.var 2) (.cons (.int 0) (.cons (.int 0) .nil))) [] []) (.int 0)) (.cmp .Eq (.call "value_at" (.cons (.var 2) (.cons (.var 5) (.cons (.var 7) .nil))) [] []) (.ix (.var 4) (.int 0)))))))))), none⟩
def e__law_is_led_right : Ent := ⟨"_law_is_led_right", d__law_is_led_right, ["deck", "number", "form", "matrix", "due", "g", "h", "i", "j", "turn", "x", "y", "value", "told"], ["deck", "number", "form", "matrix"], top 35⟩
/-- 0 script, 1 deck, 2 number, 3 form, 4 one, 5 other, 6 third, 7 matrix, 8 due, 9 back -/
def d_law : Df := ⟨1, 10, [], (.seq (.asg (.nm 1) (.call "_law_deck" (.cons (.var 0) .nil) [] []))
    (.seq (.asg (.nm 2) (.call "_law_discriminant" (.cons (.lend 1) .nil) [] [(1, 0)]))
    (.seq (.asg (.nm 3) (.call "_law_pick" (.cons (.lend 1) (.cons (.call "_law_classes" (.cons (.var 2) .nil) [] []) .nil)) [] [(1, 0)]))
    (.seq (.par [4, 5, 6] (.cons (.call "_law_drawn_matrix" (.cons (.lend 1) .nil) [] [(1, 0)]) (.cons (.call "_law_drawn_matrix" (.cons (.lend 1) .nil) [] [(1, 0)]) (.cons (.call "_law_matrix" (.cons (.lend 1) (.cons (.int 3) (.cons (.int 5) .nil))) [] [(1, 0)]) .nil))))
    (.seq (.fors none (.nm 7) (.ival (.tup 0 (.cons (.var 4) (.cons (.var 5) (.cons (.var 6) (.cons (.tup 0 (.cons (.int 1) (.cons (.int 0) (.cons (.int 0) (.cons (.int 1) .nil))))) (.cons (.tup 0 (.cons (.neg (.int 1)) (.cons (.int 0) (.cons (.int 0) (.cons (.neg (.int 1)) .nil))))) .nil)))))))
    (.ifs (.tor (.tcmp .IsNot (.call "is_matrix" (.cons (.var 7) .nil) [] []) (.bl true)) (.tnot (.tval (.call "_law_is_led_right" (.cons (.lend 1) (.cons (.var 2) (.cons (.var 3) (.cons (.var 7) .nil)))) [] [(1, 0)]))))
    (.ret (.bl false))
    .skip))
    (.seq (.asg (.nm 8) (.call "_law_times" (.cons (.var 4) (.cons (.var 5) .nil)) [] []))
    (.seq (.ifs (.tcmp .NotEq (.blt .repr (.cons (.lst 0 (.cons (.call "matrix_product" (.cons (.var 4) (.cons (.var 5) .nil)) [] []) (.cons (.call "matrix_product" (.cons (.var 5) (.cons (.var 4) .nil)) [1, 0] []) .nil))) .nil)) (.blt .repr (.cons (.lst 0 (.cons (.var 8) (.cons (.var 8) .nil))) .nil)))
    (.ret (.bl false))
    .skip)
    (.seq (.ifs (.tcmp .NotEq (.call "led_form" (.cons (.call "led_form" (.cons (.var 3) (.cons (.var 4) .nil)) [] []) (.cons (.var 5) .nil)) [] []) (.call "led_form" (.cons (.var 3) (.cons (.call "matrix_product" (.cons (.var 4) (.cons (.var 5) .nil)) [] []) .nil)) [] []))
    (.ret (.bl false))
    .skip)
    (.seq (.ifs (.tcmp .NotEq (.call "matrix_product" (.cons (.call "matrix_product" (.cons (.var 4) (.cons (.var 5) .nil)) [] []) (.cons (.var 6) .nil)) [] []) (.call "matrix_product" (.cons (.var 4) (.cons (.call "matrix_product" (.cons (.var 5) (.cons (.var 6) .nil)) [] []) .nil)) [] []))
    (.ret (.bl false))
    .skip)
    (.seq (.asg (.nm 9) (.tup 0 (.cons (.ix (.var 4) (.int 3)) (.cons (.op2 .Sub (.int 0) (.ix (.var 4) (.int 1))) (.cons (.op2 .Sub (.int 0) (.ix (.var 4) (.int 2))) (.cons (.ix (.var 4) (.int 0)) .nil))))))
    (.seq (.ifs (.tor (.tcmp .NotEq (.call "matrix_product" (.cons (.var 4) (.cons (.var 9) .nil)) [] []) (.tup 0 (.cons (.int 1) (.cons (.int 0) (.cons (.int 0) (.cons (.int 1) .nil)))))) (.tcmp .NotEq (.call "matrix_product" (.cons (.var 9) (.cons (.var 4) .nil)) [] []) (.tup 0 (.cons (.int 1) (.cons (.int 0) (.cons (.int 0) (.cons (.int 1) .nil)))))))
    (.ret (.bl false))
    .skip)
    (.ret (.and (.cmp .Eq (.call "led_form" (.cons (.call "led_form" (.cons (.var 3) (.cons (.var 4) .nil)) [] []) (.cons (.var 9) .nil)) [] []) (.var 3)) (.cmp .Eq (.call "matrix_product" (.cons (.tup 0 (.cons (.int 1) (.cons (.int 0) (.cons (.int 0) (.cons (.int 1) .nil))))) (.cons (.var 5) .nil)) [] []) (.var 5))))))))))))))), none⟩
def e_law : Ent := ⟨"law", d_law, ["script", "deck", "number", "form", "one", "other", "third", "matrix", "due", "back"], ["script"], top 36⟩
def tb : Tb := ⟨["isinstance", "int", "bool", "tuple", "len", "all", "abs", "max", "sorted", "range", "repr"], ["LEAST"], [⟨"is_integer", 1, [], []⟩,
  ⟨"are_integers", 2, [], []⟩,
  ⟨"is_discriminant", 1, [], []⟩,
  ⟨"common_divisor", 2, [], []⟩,
  ⟨"lead", 2, [], []⟩,
  ⟨"matrix_times", 2, [], []⟩,
  ⟨"is_form", 1, [], []⟩,
  ⟨"discriminant_at", 1, [], []⟩,
  ⟨"is_matrix", 1, [], []⟩,
  ⟨"reduction", 1, [], []⟩,
  ⟨"_law_draw", 2, [], []⟩,
  ⟨"_law_pick", 2, [], []⟩,
  ⟨"_law_gcd", 2, [], []⟩,
  ⟨"_law_times", 2, [], []⟩,
  ⟨"_law_matrix", 3, [], []⟩,
  ⟨"_law_led", 2, [], []⟩,
  ⟨"led_form", 2, [], []⟩,
  ⟨"led_form", 0, ["matrix", "form"], [1, 0]⟩,
  ⟨"discriminant_of", 1, [], []⟩,
  ⟨"reduced", 1, [], []⟩,
  ⟨"_law_integer", 1, [], []⟩,
  ⟨"_law_value", 3, [], []⟩,
  ⟨"value_at", 3, [], []⟩,
  ⟨"value_at", 0, ["y", "x", "form"], [2, 1, 0]⟩,
  ⟨"_law_deck", 1, [], []⟩,
  ⟨"_law_discriminant", 1, [], []⟩,
  ⟨"_law_classes", 1, [], []⟩,
  ⟨"_law_drawn_matrix", 1, [], []⟩,
  ⟨"_law_is_led_right", 4, [], []⟩,
  ⟨"matrix_product", 2, [], []⟩,
  ⟨"matrix_product", 0, ["other", "one"], [1, 0]⟩], [], [], []⟩
def con : List D := [(.int (-20000))]
def ents : List Ent := [e_is_integer, e_are_integers, e_common_divisor, e_is_discriminant, e_discriminant_at, e_is_form, e_is_matrix, e_lead, e_matrix_times, e_reduction, e_discriminant_of, e_value_at, e_led_form, e_matrix_product, e_reduced, e__law_deck, e__law_draw, e__law_pick, e__law_gcd, e__law_discriminant, e__law_classes, e__law_led, e__law_times, e__law_matrix, e__law_drawn_matrix, e__law_integer, e__law_value, e__law_is_led_right, e_law]
def cents : List Ent := []
def defs : List (Str × Df) := (ents ++ cents).map fun e => (e.nm, e.df)
theorem ents_ok : ∀ e ∈ ents, entOk tb e = true := List.all_eq_true.mp (by decide +kernel : ents.all (entOk tb) = true)
theorem cents_ok : ∀ e ∈ cents, centOk tb e = true := List.all_eq_true.mp (by decide +kernel : cents.all (centOk tb) = true)
theorem ents_nd : ((ents ++ cents).map (·.nm)).Nodup := by decide +kernel
theorem all_mk {w : World} {K : PySem.W.Frag} {h : Heap} {mg : Str → Option Value} {fa f0 f1 f2 f3 f4 f5 f6 f7 f8 f9 f10 f11 f12 f13 f14 f15 f16 f17 f18 f19 f20 f21 f22 f23 f24 f25 f26 f27 f28 : Addr} (X : K.In h) (G : h.Ns mainGlobals mg) (hfa : mg "law" = some (.ref fa))
    {od0 an0 od1 an1 od2 an2 od3 an3 od4 an4 od5 an5 od6 an6 od7 an7 od8 an8 od9 an9 od10 an10 od11 an11 od12 an12 od13 an13 od14 an14 od15 an15 od16 an16 od17 an17 od18 an18 od19 an19 od20 an20 od21 an21 od22 an22 od23 an23 od24 an24 od25 an25 od26 an26 od27 an27 od28 an28 : Option Addr} {sl0 sl1 sl2 sl3 sl4 sl5 sl6 sl7 sl8 sl9 sl10 sl11 sl12 sl13 sl14 sl15 sl16 sl17 sl18 sl19 sl20 sl21 sl22 sl23 sl24 sl25 sl26 sl27 sl28 : Array (Option Value)} {oc0 kV0 dc0 pm0 cd0 ct0 oc1 kV1 dc1 pm1 cd1 ct1 oc2 kV2 dc2 pm2 cd2 ct2 oc3 kV3 dc3 pm3 cd3 ct3 oc4 kV4 dc4 pm4 cd4 ct4 oc5 kV5 dc5 pm5 cd5 ct5 oc6 kV6 dc6 pm6 cd6 ct6 oc7 kV7 dc7 pm7 cd7 ct7 oc8 kV8 dc8 pm8 cd8 ct8 oc9 kV9 dc9 pm9 cd9 ct9 oc10 kV10 dc10 pm10 cd10 ct10 oc11 kV11 dc11 pm11 cd11 ct11 oc12 kV12 dc12 pm12 cd12 ct12 oc13 kV13 dc13 pm13 cd13 ct13 oc14 kV14 dc14 pm14 cd14 ct14 oc15 kV15 dc15 pm15 cd15 ct15 oc16 kV16 dc16 pm16 cd16 ct16 oc17 kV17 dc17 pm17 cd17 ct17 oc18 kV18 dc18 pm18 cd18 ct18 oc19 kV19 dc19 pm19 cd19 ct19 oc20 kV20 dc20 pm20 cd20 ct20 oc21 kV21 dc21 pm21 cd21 ct21 oc22 kV22 dc22 pm22 cd22 ct22 oc23 kV23 dc23 pm23 cd23 ct23 oc24 kV24 dc24 pm24 cd24 ct24 oc25 kV25 dc25 pm25 cd25 ct25 oc26 kV26 dc26 pm26 cd26 ct26 oc27 kV27 dc27 pm27 cd27 ct27 oc28 kV28 dc28 pm28 cd28 ct28 : Value}
    (a0 : PySem.W.nsIn K mainGlobals "is_integer" = some (some (.ref f0))) (l0 : K.lookup f0 = some ⟨oc0, od0, .func (PySem.W.fnOf "is_integer" "is_integer" (defArgs (top 5)) (defBody (top 5)) (defScope (top 5)) .none kV0 dc0 pm0 an0 cd0 ct0), sl0⟩) (c0 : PySem.W.codeIn K cd0 "is_integer" = true) (k0 : PySem.W.keepIn K (.ref f0) = true)
    (a1 : PySem.W.nsIn K mainGlobals "are_integers" = some (some (.ref f1))) (l1 : K.lookup f1 = some ⟨oc1, od1, .func (PySem.W.fnOf "are_integers" "are_integers" (defArgs (top 6)) (defBody (top 6)) (defScope (top 6)) .none kV1 dc1 pm1 an1 cd1 ct1), sl1⟩) (c1 : PySem.W.codeIn K cd1 "are_integers" = true) (k1 : PySem.W.keepIn K (.ref f1) = true)
    (a2 : PySem.W.nsIn K mainGlobals "common_divisor" = some (some (.ref f2))) (l2 : K.lookup f2 = some ⟨oc2, od2, .func (PySem.W.fnOf "common_divisor" "common_divisor" (defArgs (top 7)) (defBody (top 7)) (defScope (top 7)) .none kV2 dc2 pm2 an2 cd2 ct2), sl2⟩) (c2 : PySem.W.codeIn K cd2 "common_divisor" = true) (k2 : PySem.W.keepIn K (.ref f2) = true)
    (a3 : PySem.W.nsIn K mainGlobals "is_discriminant" = some (some (.ref f3))) (l3 : K.lookup f3 = some ⟨oc3, od3, .func (PySem.W.fnOf "is_discriminant" "is_discriminant" (defArgs (top 10)) (defBody (top 10)) (defScope (top 10)) .none kV3 dc3 pm3 an3 cd3 ct3), sl3⟩) (c3 : PySem.W.codeIn K cd3 "is_discriminant" = true) (k3 : PySem.W.keepIn K (.ref f3) = true)
    (a4 : PySem.W.nsIn K mainGlobals "discriminant_at" = some (some (.ref f4))) (l4 : K.lookup f4 = some ⟨oc4, od4, .func (PySem.W.fnOf "discriminant_at" "discriminant_at" (defArgs (top 11)) (defBody (top 11)) (defScope (top 11)) .none kV4 dc4 pm4 an4 cd4 ct4), sl4⟩) (c4 : PySem.W.codeIn K cd4 "discriminant_at" = true) (k4 : PySem.W.keepIn K (.ref f4) = true)
    (a5 : PySem.W.nsIn K mainGlobals "is_form" = some (some (.ref f5))) (l5 : K.lookup f5 = some ⟨oc5, od5, .func (PySem.W.fnOf "is_form" "is_form" (defArgs (top 12)) (defBody (top 12)) (defScope (top 12)) .none kV5 dc5 pm5 an5 cd5 ct5), sl5⟩) (c5 : PySem.W.codeIn K cd5 "is_form" = true) (k5 : PySem.W.keepIn K (.ref f5) = true)
    (a6 : PySem.W.nsIn K mainGlobals "is_matrix" = some (some (.ref f6))) (l6 : K.lookup f6 = some ⟨oc6, od6, .func (PySem.W.fnOf "is_matrix" "is_matrix" (defArgs (top 13)) (defBody (top 13)) (defScope (top 13)) .none kV6 dc6 pm6 an6 cd6 ct6), sl6⟩) (c6 : PySem.W.codeIn K cd6 "is_matrix" = true) (k6 : PySem.W.keepIn K (.ref f6) = true)
    (a7 : PySem.W.nsIn K mainGlobals "lead" = some (some (.ref f7))) (l7 : K.lookup f7 = some ⟨oc7, od7, .func (PySem.W.fnOf "lead" "lead" (defArgs (top 14)) (defBody (top 14)) (defScope (top 14)) .none kV7 dc7 pm7 an7 cd7 ct7), sl7⟩) (c7 : PySem.W.codeIn K cd7 "lead" = true) (k7 : PySem.W.keepIn K (.ref f7) = true)
    (a8 : PySem.W.nsIn K mainGlobals "matrix_times" = some (some (.ref f8))) (l8 : K.lookup f8 = some ⟨oc8, od8, .func (PySem.W.fnOf "matrix_times" "matrix_times" (defArgs (top 15)) (defBody (top 15)) (defScope (top 15)) .none kV8 dc8 pm8 an8 cd8 ct8), sl8⟩) (c8 : PySem.W.codeIn K cd8 "matrix_times" = true) (k8 : PySem.W.keepIn K (.ref f8) = true)
    (a9 : PySem.W.nsIn K mainGlobals "reduction" = some (some (.ref f9))) (l9 : K.lookup f9 = some ⟨oc9, od9, .func (PySem.W.fnOf "reduction" "reduction" (defArgs (top 16)) (defBody (top 16)) (defScope (top 16)) .none kV9 dc9 pm9 an9 cd9 ct9), sl9⟩) (c9 : PySem.W.codeIn K cd9 "reduction" = true) (k9 : PySem.W.keepIn K (.ref f9) = true)
    (a10 : PySem.W.nsIn K mainGlobals "discriminant_of" = some (some (.ref f10))) (l10 : K.lookup f10 = some ⟨oc10, od10, .func (PySem.W.fnOf "discriminant_of" "discriminant_of" (defArgs (top 17)) (defBody (top 17)) (defScope (top 17)) .none kV10 dc10 pm10 an10 cd10 ct10), sl10⟩) (c10 : PySem.W.codeIn K cd10 "discriminant_of" = true) (k10 : PySem.W.keepIn K (.ref f10) = true)
    (a11 : PySem.W.nsIn K mainGlobals "value_at" = some (some (.ref f11))) (l11 : K.lookup f11 = some ⟨oc11, od11, .func (PySem.W.fnOf "value_at" "value_at" (defArgs (top 18)) (defBody (top 18)) (defScope (top 18)) .none kV11 dc11 pm11 an11 cd11 ct11), sl11⟩) (c11 : PySem.W.codeIn K cd11 "value_at" = true) (k11 : PySem.W.keepIn K (.ref f11) = true)
    (a12 : PySem.W.nsIn K mainGlobals "led_form" = some (some (.ref f12))) (l12 : K.lookup f12 = some ⟨oc12, od12, .func (PySem.W.fnOf "led_form" "led_form" (defArgs (top 19)) (defBody (top 19)) (defScope (top 19)) .none kV12 dc12 pm12 an12 cd12 ct12), sl12⟩) (c12 : PySem.W.codeIn K cd12 "led_form" = true) (k12 : PySem.W.keepIn K (.ref f12) = true)
    (a13 : PySem.W.nsIn K mainGlobals "matrix_product" = some (some (.ref f13))) (l13 : K.lookup f13 = some ⟨oc13, od13, .func (PySem.W.fnOf "matrix_product" "matrix_product" (defArgs (top 20)) (defBody (top 20)) (defScope (top 20)) .none kV13 dc13 pm13 an13 cd13 ct13), sl13⟩) (c13 : PySem.W.codeIn K cd13 "matrix_product" = true) (k13 : PySem.W.keepIn K (.ref f13) = true)
    (a14 : PySem.W.nsIn K mainGlobals "reduced" = some (some (.ref f14))) (l14 : K.lookup f14 = some ⟨oc14, od14, .func (PySem.W.fnOf "reduced" "reduced" (defArgs (top 21)) (defBody (top 21)) (defScope (top 21)) .none kV14 dc14 pm14 an14 cd14 ct14), sl14⟩) (c14 : PySem.W.codeIn K cd14 "reduced" = true) (k14 : PySem.W.keepIn K (.ref f14) = true)
    (a15 : PySem.W.nsIn K mainGlobals "_law_deck" = some (some (.ref f15))) (l15 : K.lookup f15 = some ⟨oc15, od15, .func (PySem.W.fnOf "_law_deck" "_law_deck" (defArgs (top 23)) (defBody (top 23)) (defScope (top 23)) .none kV15 dc15 pm15 an15 cd15 ct15), sl15⟩) (c15 : PySem.W.codeIn K cd15 "_law_deck" = true) (k15 : PySem.W.keepIn K (.ref f15) = true)
    (a16 : PySem.W.nsIn K mainGlobals "_law_draw" = some (some (.ref f16))) (l16 : K.lookup f16 = some ⟨oc16, od16, .func (PySem.W.fnOf "_law_draw" "_law_draw" (defArgs (top 24)) (defBody (top 24)) (defScope (top 24)) .none kV16 dc16 pm16 an16 cd16 ct16), sl16⟩) (c16 : PySem.W.codeIn K cd16 "_law_draw" = true) (k16 : PySem.W.keepIn K (.ref f16) = true)
    (a17 : PySem.W.nsIn K mainGlobals "_law_pick" = some (some (.ref f17))) (l17 : K.lookup f17 = some ⟨oc17, od17, .func (PySem.W.fnOf "_law_pick" "_law_pick" (defArgs (top 25)) (defBody (top 25)) (defScope (top 25)) .none kV17 dc17 pm17 an17 cd17 ct17), sl17⟩) (c17 : PySem.W.codeIn K cd17 "_law_pick" = true) (k17 : PySem.W.keepIn K (.ref f17) = true)
    (a18 : PySem.W.nsIn K mainGlobals "_law_gcd" = some (some (.ref f18))) (l18 : K.lookup f18 = some ⟨oc18, od18, .func (PySem.W.fnOf "_law_gcd" "_law_gcd" (defArgs (top 26)) (defBody (top 26)) (defScope (top 26)) .none kV18 dc18 pm18 an18 cd18 ct18), sl18⟩) (c18 : PySem.W.codeIn K cd18 "_law_gcd" = true) (k18 : PySem.W.keepIn K (.ref f18) = true)
    (a19 : PySem.W.nsIn K mainGlobals "_law_discriminant" = some (some (.ref f19))) (l19 : K.lookup f19 = some ⟨oc19, od19, .func (PySem.W.fnOf "_law_discriminant" "_law_discriminant" (defArgs (top 27)) (defBody (top 27)) (defScope (top 27)) .none kV19 dc19 pm19 an19 cd19 ct19), sl19⟩) (c19 : PySem.W.codeIn K cd19 "_law_discriminant" = true) (k19 : PySem.W.keepIn K (.ref f19) = true)
    (a20 : PySem.W.nsIn K mainGlobals "_law_classes" = some (some (.ref f20))) (l20 : K.lookup f20 = some ⟨oc20, od20, .func (PySem.W.fnOf "_law_classes" "_law_classes" (defArgs (top 28)) (defBody (top 28)) (defScope (top 28)) .none kV20 dc20 pm20 an20 cd20 ct20), sl20⟩) (c20 : PySem.W.codeIn K cd20 "_law_classes" = true) (k20 : PySem.W.keepIn K (.ref f20) = true)
    (a21 : PySem.W.nsIn K mainGlobals "_law_led" = some (some (.ref f21))) (l21 : K.lookup f21 = some ⟨oc21, od21, .func (PySem.W.fnOf "_law_led" "_law_led" (defArgs (top 29)) (defBody (top 29)) (defScope (top 29)) .none kV21 dc21 pm21 an21 cd21 ct21), sl21⟩) (c21 : PySem.W.codeIn K cd21 "_law_led" = true) (k21 : PySem.W.keepIn K (.ref f21) = true)
    (a22 : PySem.W.nsIn K mainGlobals "_law_times" = some (some (.ref f22))) (l22 : K.lookup f22 = some ⟨oc22, od22, .func (PySem.W.fnOf "_law_times" "_law_times" (defArgs (top 30)) (defBody (top 30)) (defScope (top 30)) .none kV22 dc22 pm22 an22 cd22 ct22), sl22⟩) (c22 : PySem.W.codeIn K cd22 "_law_times" = true) (k22 : PySem.W.keepIn K (.ref f22) = true)
    (a23 : PySem.W.nsIn K mainGlobals "_law_matrix" = some (some (.ref f23))) (l23 : K.lookup f23 = some ⟨oc23, od23, .func (PySem.W.fnOf "_law_matrix" "_law_matrix" (defArgs (top 31)) (defBody (top 31)) (defScope (top 31)) .none kV23 dc23 pm23 an23 cd23 ct23), sl23⟩) (c23 : PySem.W.codeIn K cd23 "_law_matrix" = true) (k23 : PySem.W.keepIn K (.ref f23) = true)
    (a24 : PySem.W.nsIn K mainGlobals "_law_drawn_matrix" = some (some (.ref f24))) (l24 : K.lookup f24 = some ⟨oc24, od24, .func (PySem.W.fnOf "_law_drawn_matrix" "_law_drawn_matrix" (defArgs (top 32)) (defBody (top 32)) (defScope (top 32)) .none kV24 dc24 pm24 an24 cd24 ct24), sl24⟩) (c24 : PySem.W.codeIn K cd24 "_law_drawn_matrix" = true) (k24 : PySem.W.keepIn K (.ref f24) = true)
    (a25 : PySem.W.nsIn K mainGlobals "_law_integer" = some (some (.ref f25))) (l25 : K.lookup f25 = some ⟨oc25, od25, .func (PySem.W.fnOf "_law_integer" "_law_integer" (defArgs (top 33)) (defBody (top 33)) (defScope (top 33)) .none kV25 dc25 pm25 an25 cd25 ct25), sl25⟩) (c25 : PySem.W.codeIn K cd25 "_law_integer" = true) (k25 : PySem.W.keepIn K (.ref f25) = true)
    (a26 : PySem.W.nsIn K mainGlobals "_law_value" = some (some (.ref f26))) (l26 : K.lookup f26 = some ⟨oc26, od26, .func (PySem.W.fnOf "_law_value" "_law_value" (defArgs (top 34)) (defBody (top 34)) (defScope (top 34)) .none kV26 dc26 pm26 an26 cd26 ct26), sl26⟩) (c26 : PySem.W.codeIn K cd26 "_law_value" = true) (k26 : PySem.W.keepIn K (.ref f26) = true)
    (a27 : PySem.W.nsIn K mainGlobals "_law_is_led_right" = some (some (.ref f27))) (l27 : K.lookup f27 = some ⟨oc27, od27, .func (PySem.W.fnOf "_law_is_led_right" "_law_is_led_right" (defArgs (top 35)) (defBody (top 35)) (defScope (top 35)) .none kV27 dc27 pm27 an27 cd27 ct27), sl27⟩) (c27 : PySem.W.codeIn K cd27 "_law_is_led_right" = true) (k27 : PySem.W.keepIn K (.ref f27) = true)
    (a28 : PySem.W.nsIn K mainGlobals "law" = some (some (.ref f28))) (l28 : K.lookup f28 = some ⟨oc28, od28, .func (PySem.W.fnOf "law" "law" (defArgs (top 36)) (defBody (top 36)) (defScope (top 36)) .none kV28 dc28 pm28 an28 cd28 ct28), sl28⟩) (c28 : PySem.W.codeIn K cd28 "law" = true) (k28 : PySem.W.keepIn K (.ref f28) = true)
    (z0 : PySem.W.nsIn K mainGlobals "isinstance" = some none)
    (z1 : PySem.W.nsIn K mainGlobals "int" = some none)
    (z2 : PySem.W.nsIn K mainGlobals "bool" = some none)
    (z3 : PySem.W.nsIn K mainGlobals "tuple" = some none)
    (z4 : PySem.W.nsIn K mainGlobals "len" = some none)
    (z5 : PySem.W.nsIn K mainGlobals "all" = some none)
    (z6 : PySem.W.nsIn K mainGlobals "abs" = some none)
    (z7 : PySem.W.nsIn K mainGlobals "max" = some none)
    (z8 : PySem.W.nsIn K mainGlobals "sorted" = some none)
    (z9 : PySem.W.nsIn K mainGlobals "range" = some none)
    (z10 : PySem.W.nsIn K mainGlobals "repr" = some none)
    {t0 : Tok}
    (v0 : PySem.W.nsIn K mainGlobals "LEAST" = some (some (Value.int (-20000) t0)))
    : ∃ fd : FuncData, (∀ (s : Shared) (v : Value), BindsTo s fd ⟨[v], []⟩ [("script", v)]) ∧ ∀ base : Heap, K.In base → base.Ns mainGlobals mg → FnG PySem.Challenge.pw_craterbeat_k37_matrices_lead_forms w K mg base 20 fa fd ["script"] (spD K (callN defs con Fu 20 "law")) := by
  have e := hfa.symm.trans (PySem.W.mg_of X G a28)
  cases e
  have F0 := fun_mk (st := top 5) l0 c0 k0
  have F1 := fun_mk (st := top 6) l1 c1 k1
  have F2 := fun_mk (st := top 7) l2 c2 k2
  have F3 := fun_mk (st := top 10) l3 c3 k3
  have F4 := fun_mk (st := top 11) l4 c4 k4
  have F5 := fun_mk (st := top 12) l5 c5 k5
  have F6 := fun_mk (st := top 13) l6 c6 k6
  have F7 := fun_mk (st := top 14) l7 c7 k7
  have F8 := fun_mk (st := top 15) l8 c8 k8
  have F9 := fun_mk (st := top 16) l9 c9 k9
  have F10 := fun_mk (st := top 17) l10 c10 k10
  have F11 := fun_mk (st := top 18) l11 c11 k11
  have F12 := fun_mk (st := top 19) l12 c12 k12
  have F13 := fun_mk (st := top 20) l13 c13 k13
  have F14 := fun_mk (st := top 21) l14 c14 k14
  have F15 := fun_mk (st := top 23) l15 c15 k15
  have F16 := fun_mk (st := top 24) l16 c16 k16
  have F17 := fun_mk (st := top 25) l17 c17 k17
  have F18 := fun_mk (st := top 26) l18 c18 k18
  have F19 := fun_mk (st := top 27) l19 c19 k19
  have F20 := fun_mk (st := top 28) l20 c20 k20
  have F21 := fun_mk (st := top 29) l21 c21 k21
  have F22 := fun_mk (st := top 30) l22 c22 k22
  have F23 := fun_mk (st := top 31) l23 c23 k23
  have F24 := fun_mk (st := top 32) l24 c24 k24
  have F25 := fun_mk (st := top 33) l25 c25 k25
  have F26 := fun_mk (st := top 34) l26 c26 k26
  have F27 := fun_mk (st := top 35) l27 c27 k27
  have F28 := fun_mk (st := top 36) l28 c28 k28
  have B0 : ∀ sh ∈ ([⟨"is_integer", 1, [], []⟩] : List Shape), Bds K (PySem.W.fnOf "is_integer" "is_integer" (defArgs (top 5)) (defBody (top 5)) (defScope (top 5)) .none kV0 dc0 pm0 an0 cd0 ct0) e_is_integer.ps sh := List.forall_mem_cons.mpr ⟨(fun s us ws _ h1 h2 => .of_eq (match us, ws, h1, h2 with | [u0], [], _, _ => rfl)), List.forall_mem_nil _⟩
  have B1 : ∀ sh ∈ ([⟨"are_integers", 2, [], []⟩] : List Shape), Bds K (PySem.W.fnOf "are_integers" "are_integers" (defArgs (top 6)) (defBody (top 6)) (defScope (top 6)) .none kV1 dc1 pm1 an1 cd1 ct1) e_are_integers.ps sh := List.forall_mem_cons.mpr ⟨(fun s us ws _ h1 h2 => .of_eq (match us, ws, h1, h2 with | [u0, u1], [], _, _ => rfl)), List.forall_mem_nil _⟩
  have B2 : ∀ sh ∈ ([⟨"common_divisor", 2, [], []⟩] : List Shape), Bds K (PySem.W.fnOf "common_divisor" "common_divisor" (defArgs (top 7)) (defBody (top 7)) (defScope (top 7)) .none kV2 dc2 pm2 an2 cd2 ct2) e_common_divisor.ps sh := List.forall_mem_cons.mpr ⟨(fun s us ws _ h1 h2 => .of_eq (match us, ws, h1, h2 with | [u0, u1], [], _, _ => rfl)), List.forall_mem_nil _⟩
  have B3 : ∀ sh ∈ ([⟨"is_discriminant", 1, [], []⟩] : List Shape), Bds K (PySem.W.fnOf "is_discriminant" "is_discriminant" (defArgs (top 10)) (defBody (top 10)) (defScope (top 10)) .none kV3 dc3 pm3 an3 cd3 ct3) e_is_discriminant.ps sh := List.forall_mem_cons.mpr ⟨(fun s us ws _ h1 h2 => .of_eq (match us, ws, h1, h2 with | [u0], [], _, _ => rfl)), List.forall_mem_nil _⟩
  have B4 : ∀ sh ∈ ([⟨"discriminant_at", 1, [], []⟩] : List Shape), Bds K (PySem.W.fnOf "discriminant_at" "discriminant_at" (defArgs (top 11)) (defBody (top 11)) (defScope (top 11)) .none kV4 dc4 pm4 an4 cd4 ct4) e_discriminant_at.ps sh := List.forall_mem_cons.mpr ⟨(fun s us ws _ h1 h2 => .of_eq (match us, ws, h1, h2 with | [u0], [], _, _ => rfl)), List.forall_mem_nil _⟩
  have B5 : ∀ sh ∈ ([⟨"is_form", 1, [], []⟩] : List Shape), Bds K (PySem.W.fnOf "is_form" "is_form" (defArgs (top 12)) (defBody (top 12)) (defScope (top 12)) .none kV5 dc5 pm5 an5 cd5 ct5) e_is_form.ps sh := List.forall_mem_cons.mpr ⟨(fun s us ws _ h1 h2 => .of_eq (match us, ws, h1, h2 with | [u0], [], _, _ => rfl)), List.forall_mem_nil _⟩
  have B6 : ∀ sh ∈ ([⟨"is_matrix", 1, [], []⟩] : List Shape), Bds K (PySem.W.fnOf "is_matrix" "is_matrix" (defArgs (top 13)) (defBody (top 13)) (defScope (top 13)) .none kV6 dc6 pm6 an6 cd6 ct6) e_is_matrix.ps sh := List.forall_mem_cons.mpr ⟨(fun s us ws _ h1 h2 => .of_eq (match us, ws, h1, h2 with | [u0], [], _, _ => rfl)), List.forall_mem_nil _⟩
  have B7 : ∀ sh ∈ ([⟨"lead", 2, [], []⟩] : List Shape), Bds K (PySem.W.fnOf "lead" "lead" (defArgs (top 14)) (defBody (top 14)) (defScope (top 14)) .none kV7 dc7 pm7 an7 cd7 ct7) e_lead.ps sh := List.forall_mem_cons.mpr ⟨(fun s us ws _ h1 h2 => .of_eq (match us, ws, h1, h2 with | [u0, u1], [], _, _ => rfl)), List.forall_mem_nil _⟩
  have B8 : ∀ sh ∈ ([⟨"matrix_times", 2, [], []⟩] : List Shape), Bds K (PySem.W.fnOf "matrix_times" "matrix_times" (defArgs (top 15)) (defBody (top 15)) (defScope (top 15)) .none kV8 dc8 pm8 an8 cd8 ct8) e_matrix_times.ps sh := List.forall_mem_cons.mpr ⟨(fun s us ws _ h1 h2 => .of_eq (match us, ws, h1, h2 with | [u0, u1], [], _, _ => rfl)), List.forall_mem_nil _⟩
  have B9 : ∀ sh ∈ ([⟨"reduction", 1, [], []⟩] : List Shape), Bds K (PySem.W.fnOf "reduction" "reduction" (defArgs (top 16)) (defBody (top 16)) (defScope (top 16)) .none kV9 dc9 pm9 an9 cd9 ct9) e_reduction.ps sh := List.forall_mem_cons.mpr ⟨(fun s us ws _ h1 h2 => .of_eq (match us, ws, h1, h2 with | [u0], [], _, _ => rfl)), List.forall_mem_nil _⟩
  have B10 : ∀ sh ∈ ([⟨"discriminant_of", 1, [], []⟩] : List Shape), Bds K (PySem.W.fnOf "discriminant_of" "discriminant_of" (defArgs (top 17)) (defBody (top 17)) (defScope (top 17)) .none kV10 dc10 pm10 an10 cd10 ct10) e_discriminant_of.ps sh := List.forall_mem_cons.mpr ⟨(fun s us ws _ h1 h2 => .of_eq (match us, ws, h1, h2 with | [u0], [], _, _ => rfl)), List.forall_mem_nil _⟩
  have B11 : ∀ sh ∈ ([⟨"value_at", 3, [], []⟩, ⟨"value_at", 0, ["y", "x", "form"], [2, 1, 0]⟩] : List Shape), Bds K (PySem.W.fnOf "value_at" "value_at" (defArgs (top 18)) (defBody (top 18)) (defScope (top 18)) .none kV11 dc11 pm11 an11 cd11 ct11) e_value_at.ps sh := List.forall_mem_cons.mpr ⟨(fun s us ws _ h1 h2 => .of_eq (match us, ws, h1, h2 with | [u0, u1, u2], [], _, _ => rfl)), List.forall_mem_cons.mpr ⟨(fun s us ws _ h1 h2 => .of_eq (match us, ws, h1, h2 with | [], [w0, w1, w2], _, _ => rfl)), List.forall_mem_nil _⟩⟩
  have B12 : ∀ sh ∈ ([⟨"led_form", 2, [], []⟩, ⟨"led_form", 0, ["matrix", "form"], [1, 0]⟩] : List Shape), Bds K (PySem.W.fnOf "led_form" "led_form" (defArgs (top 19)) (defBody (top 19)) (defScope (top 19)) .none kV12 dc12 pm12 an12 cd12 ct12) e_led_form.ps sh := List.forall_mem_cons.mpr ⟨(fun s us ws _ h1 h2 => .of_eq (match us, ws, h1, h2 with | [u0, u1], [], _, _ => rfl)), List.forall_mem_cons.mpr ⟨(fun s us ws _ h1 h2 => .of_eq (match us, ws, h1, h2 with | [], [w0, w1], _, _ => rfl)), List.forall_mem_nil _⟩⟩
  have B13 : ∀ sh ∈ ([⟨"matrix_product", 2, [], []⟩, ⟨"matrix_product", 0, ["other", "one"], [1, 0]⟩] : List Shape), Bds K (PySem.W.fnOf "matrix_product" "matrix_product" (defArgs (top 20)) (defBody (top 20)) (defScope (top 20)) .none kV13 dc13 pm13 an13 cd13 ct13) e_matrix_product.ps sh := List.forall_mem_cons.mpr ⟨(fun s us ws _ h1 h2 => .of_eq (match us, ws, h1, h2 with | [u0, u1], [], _, _ => rfl)), List.forall_mem_cons.mpr ⟨(fun s us ws _ h1 h2 => .of_eq (match us, ws, h1, h2 with | [], [w0, w1], _, _ => rfl)), List.forall_mem_nil _⟩⟩
  have B14 : ∀ sh ∈ ([⟨"reduced", 1, [], []⟩] : List Shape), Bds K (PySem.W.fnOf "reduced" "reduced" (defArgs (top 21)) (defBody (top 21)) (defScope (top 21)) .none kV14 dc14 pm14 an14 cd14 ct14) e_reduced.ps sh := List.forall_mem_cons.mpr ⟨(fun s us ws _ h1 h2 => .of_eq (match us, ws, h1, h2 with | [u0], [], _, _ => rfl)), List.forall_mem_nil _⟩
  have B15 : ∀ sh ∈ ([⟨"_law_deck", 1, [], []⟩] : List Shape), Bds K (PySem.W.fnOf "_law_deck" "_law_deck" (defArgs (top 23)) (defBody (top 23)) (defScope (top 23)) .none kV15 dc15 pm15 an15 cd15 ct15) e__law_deck.ps sh := List.forall_mem_cons.mpr ⟨(fun s us ws _ h1 h2 => .of_eq (match us, ws, h1, h2 with | [u0], [], _, _ => rfl)), List.forall_mem_nil _⟩
  have B16 : ∀ sh ∈ ([⟨"_law_draw", 2, [], []⟩] : List Shape), Bds K (PySem.W.fnOf "_law_draw" "_law_draw" (defArgs (top 24)) (defBody (top 24)) (defScope (top 24)) .none kV16 dc16 pm16 an16 cd16 ct16) e__law_draw.ps sh := List.forall_mem_cons.mpr ⟨(fun s us ws _ h1 h2 => .of_eq (match us, ws, h1, h2 with | [u0, u1], [], _, _ => rfl)), List.forall_mem_nil _⟩
  have B17 : ∀ sh ∈ ([⟨"_law_pick", 2, [], []⟩] : List Shape), Bds K (PySem.W.fnOf "_law_pick" "_law_pick" (defArgs (top 25)) (defBody (top 25)) (defScope (top 25)) .none kV17 dc17 pm17 an17 cd17 ct17) e__law_pick.ps sh := List.forall_mem_cons.mpr ⟨(fun s us ws _ h1 h2 => .of_eq (match us, ws, h1, h2 with | [u0, u1], [], _, _ => rfl)), List.forall_mem_nil _⟩
  have B18 : ∀ sh ∈ ([⟨"_law_gcd", 2, [], []⟩] : List Shape), Bds K (PySem.W.fnOf "_law_gcd" "_law_gcd" (defArgs (top 26)) (defBody (top 26)) (defScope (top 26)) .none kV18 dc18 pm18 an18 cd18 ct18) e__law_gcd.ps sh := List.forall_mem_cons.mpr ⟨(fun s us ws _ h1 h2 => .of_eq (match us, ws, h1, h2 with | [u0, u1], [], _, _ => rfl)), List.forall_mem_nil _⟩
  have B19 : ∀ sh ∈ ([⟨"_law_discriminant", 1, [], []⟩] : List Shape), Bds K (PySem.W.fnOf "_law_discriminant" "_law_discriminant" (defArgs (top 27)) (defBody (top 27)) (defScope (top 27)) .none kV19 dc19 pm19 an19 cd19 ct19) e__law_discriminant.ps sh := List.forall_mem_cons.mpr ⟨(fun s us ws _ h1 h2 => .of_eq (match us, ws, h1, h2 with | [u0], [], _, _ => rfl)), List.forall_mem_nil _⟩
  have B20 : ∀ sh ∈ ([⟨"_law_classes", 1, [], []⟩] : List Shape), Bds K (PySem.W.fnOf "_law_classes" "_law_classes" (defArgs (top 28)) (defBody (top 28)) (defScope (top 28)) .none kV20 dc20 pm20 an20 cd20 ct20) e__law_classes.ps sh := List.forall_mem_cons.mpr ⟨(fun s us ws _ h1 h2 => .of_eq (match us, ws, h1, h2 with | [u0], [], _, _ => rfl)), List.forall_mem_nil _⟩
  have B21 : ∀ sh ∈ ([⟨"_law_led", 2, [], []⟩] : List Shape), Bds K (PySem.W.fnOf "_law_led" "_law_led" (defArgs (top 29)) (defBody (top 29)) (defScope (top 29)) .none kV21 dc21 pm21 an21 cd21 ct21) e__law_led.ps sh := List.forall_mem_cons.mpr ⟨(fun s us ws _ h1 h2 => .of_eq (match us, ws, h1, h2 with | [u0, u1], [], _, _ => rfl)), List.forall_mem_nil _⟩
  have B22 : ∀ sh ∈ ([⟨"_law_times", 2, [], []⟩] : List Shape), Bds K (PySem.W.fnOf "_law_times" "_law_times" (defArgs (top 30)) (defBody (top 30)) (defScope (top 30)) .none kV22 dc22 pm22 an22 cd22 ct22) e__law_times.ps sh := List.forall_mem_cons.mpr ⟨(fun s us ws _ h1 h2 => .of_eq (match us, ws, h1, h2 with | [u0, u1], [], _, _ => rfl)), List.forall_mem_nil _⟩
  have B23 : ∀ sh ∈ ([⟨"_law_matrix", 3, [], []⟩] : List Shape), Bds K (PySem.W.fnOf "_law_matrix" "_law_matrix" (defArgs (top 31)) (defBody (top 31)) (defScope (top 31)) .none kV23 dc23 pm23 an23 cd23 ct23) e__law_matrix.ps sh := List.forall_mem_cons.mpr ⟨(fun s us ws _ h1 h2 => .of_eq (match us, ws, h1, h2 with | [u0, u1, u2], [], _, _ => rfl)), List.forall_mem_nil _⟩
  have B24 : ∀ sh ∈ ([⟨"_law_drawn_matrix", 1, [], []⟩] : List Shape), Bds K (PySem.W.fnOf "_law_drawn_matrix" "_law_drawn_matrix" (defArgs (top 32)) (defBody (top 32)) (defScope (top 32)) .none kV24 dc24 pm24 an24 cd24 ct24) e__law_drawn_matrix.ps sh := List.forall_mem_cons.mpr ⟨(fun s us ws _ h1 h2 => .of_eq (match us, ws, h1, h2 with | [u0], [], _, _ => rfl)), List.forall_mem_nil _⟩
  have B25 : ∀ sh ∈ ([⟨"_law_integer", 1, [], []⟩] : List Shape), Bds K (PySem.W.fnOf "_law_integer" "_law_integer" (defArgs (top 33)) (defBody (top 33)) (defScope (top 33)) .none kV25 dc25 pm25 an25 cd25 ct25) e__law_integer.ps sh := List.forall_mem_cons.mpr ⟨(fun s us ws _ h1 h2 => .of_eq (match us, ws, h1, h2 with | [u0], [], _, _ => rfl)), List.forall_mem_nil _⟩
  have B26 : ∀ sh ∈ ([⟨"_law_value", 3, [], []⟩] : List Shape), Bds K (PySem.W.fnOf "_law_value" "_law_value" (defArgs (top 34)) (defBody (top 34)) (defScope (top 34)) .none kV26 dc26 pm26 an26 cd26 ct26) e__law_value.ps sh := List.forall_mem_cons.mpr ⟨(fun s us ws _ h1 h2 => .of_eq (match us, ws, h1, h2 with | [u0, u1, u2], [], _, _ => rfl)), List.forall_mem_nil _⟩
  have B27 : ∀ sh ∈ ([⟨"_law_is_led_right", 4, [], []⟩] : List Shape), Bds K (PySem.W.fnOf "_law_is_led_right" "_law_is_led_right" (defArgs (top 35)) (defBody (top 35)) (defScope (top 35)) .none kV27 dc27 pm27 an27 cd27 ct27) e__law_is_led_right.ps sh := List.forall_mem_cons.mpr ⟨(fun s us ws _ h1 h2 => .of_eq (match us, ws, h1, h2 with | [u0, u1, u2, u3], [], _, _ => rfl)), List.forall_mem_nil _⟩
  have B28 : ∀ sh ∈ ([] : List Shape), Bds K (PySem.W.fnOf "law" "law" (defArgs (top 36)) (defBody (top 36)) (defScope (top 36)) .none kV28 dc28 pm28 an28 cd28 ct28) e_law.ps sh := List.forall_mem_nil _
  have hM : Mg PySem.Challenge.pw_craterbeat_k37_matrices_lead_forms w K mg tb con ents cents := {
    blt := List.forall_mem_cons.mpr ⟨PySem.W.mg_none_of X G z0, List.forall_mem_cons.mpr ⟨PySem.W.mg_none_of X G z1, List.forall_mem_cons.mpr ⟨PySem.W.mg_none_of X G z2, List.forall_mem_cons.mpr ⟨PySem.W.mg_none_of X G z3, List.forall_mem_cons.mpr ⟨PySem.W.mg_none_of X G z4, List.forall_mem_cons.mpr ⟨PySem.W.mg_none_of X G z5, List.forall_mem_cons.mpr ⟨PySem.W.mg_none_of X G z6, List.forall_mem_cons.mpr ⟨PySem.W.mg_none_of X G z7, List.forall_mem_cons.mpr ⟨PySem.W.mg_none_of X G z8, List.forall_mem_cons.mpr ⟨PySem.W.mg_none_of X G z9, List.forall_mem_cons.mpr ⟨PySem.W.mg_none_of X G z10, List.forall_mem_nil _⟩⟩⟩⟩⟩⟩⟩⟩⟩⟩⟩
    con := cons_ok ["LEAST"] [(.int (-20000))] ⟨⟨(.int (-20000)), _, PySem.W.mg_of X G v0, ⟨t0, rfl⟩, fun _ => ⟨rfl, rfl, rfl⟩⟩, trivial⟩
    mths := List.forall_mem_nil _
    nes := List.forall_mem_nil _
    iscs := List.forall_mem_nil _
    fns := List.forall_mem_cons.mpr ⟨fun _ => ⟨_, (PySem.W.fnOf "is_integer" "is_integer" (defArgs (top 5)) (defBody (top 5)) (defScope (top 5)) .none kV0 dc0 pm0 an0 cd0 ct0), F0, PySem.W.mg_of X G a0, bds_of B0 (by decide +kernel)⟩, List.forall_mem_cons.mpr ⟨fun _ => ⟨_, (PySem.W.fnOf "are_integers" "are_integers" (defArgs (top 6)) (defBody (top 6)) (defScope (top 6)) .none kV1 dc1 pm1 an1 cd1 ct1), F1, PySem.W.mg_of X G a1, bds_of B1 (by decide +kernel)⟩, List.forall_mem_cons.mpr ⟨fun _ => ⟨_, (PySem.W.fnOf "common_divisor" "common_divisor" (defArgs (top 7)) (defBody (top 7)) (defScope (top 7)) .none kV2 dc2 pm2 an2 cd2 ct2), F2, PySem.W.mg_of X G a2, bds_of B2 (by decide +kernel)⟩, List.forall_mem_cons.mpr ⟨fun _ => ⟨_, (PySem.W.fnOf "is_discriminant" "is_discriminant" (defArgs (top 10)) (defBody (top 10)) (defScope (top 10)) .none kV3 dc3 pm3 an3 cd3 ct3), F3, PySem.W.mg_of X G a3, bds_of B3 (by decide +kernel)⟩, List.forall_mem_cons.mpr ⟨fun _ => ⟨_, (PySem.W.fnOf "discriminant_at" "discriminant_at" (defArgs (top 11)) (defBody (top 11)) (defScope (top 11)) .none kV4 dc4 pm4 an4 cd4 ct4), F4, PySem.W.mg_of X G a4, bds_of B4 (by decide +kernel)⟩, List.forall_mem_cons.mpr ⟨fun _ => ⟨_, (PySem.W.fnOf "is_form" "is_form" (defArgs (top 12)) (defBody (top 12)) (defScope (top 12)) .none kV5 dc5 pm5 an5 cd5 ct5), F5, PySem.W.mg_of X G a5, bds_of B5 (by decide +kernel)⟩, List.forall_mem_cons.mpr ⟨fun _ => ⟨_, (PySem.W.fnOf "is_matrix" "is_matrix" (defArgs (top 13)) (defBody (top 13)) (defScope (top 13)) .none kV6 dc6 pm6 an6 cd6 ct6), F6, PySem.W.mg_of X G a6, bds_of B6 (by decide +kernel)⟩, List.forall_mem_cons.mpr ⟨fun _ => ⟨_, (PySem.W.fnOf "lead" "lead" (defArgs (top 14)) (defBody (top 14)) (defScope (top 14)) .none kV7 dc7 pm7 an7 cd7 ct7), F7, PySem.W.mg_of X G a7, bds_of B7 (by decide +kernel)⟩, List.forall_mem_cons.mpr ⟨fun _ => ⟨_, (PySem.W.fnOf "matrix_times" "matrix_times" (defArgs (top 15)) (defBody (top 15)) (defScope (top 15)) .none kV8 dc8 pm8 an8 cd8 ct8), F8, PySem.W.mg_of X G a8, bds_of B8 (by decide +kernel)⟩, List.forall_mem_cons.mpr ⟨fun _ => ⟨_, (PySem.W.fnOf "reduction" "reduction" (defArgs (top 16)) (defBody (top 16)) (defScope (top 16)) .none kV9 dc9 pm9 an9 cd9 ct9), F9, PySem.W.mg_of X G a9, bds_of B9 (by decide +kernel)⟩, List.forall_mem_cons.mpr ⟨fun _ => ⟨_, (PySem.W.fnOf "discriminant_of" "discriminant_of" (defArgs (top 17)) (defBody (top 17)) (defScope (top 17)) .none kV10 dc10 pm10 an10 cd10 ct10), F10, PySem.W.mg_of X G a10, bds_of B10 (by decide +kernel)⟩, List.forall_mem_cons.mpr ⟨fun _ => ⟨_, (PySem.W.fnOf "value_at" "value_at" (defArgs (top 18)) (defBody (top 18)) (defScope (top 18)) .none kV11 dc11 pm11 an11 cd11 ct11), F11, PySem.W.mg_of X G a11, bds_of B11 (by decide +kernel)⟩, List.forall_mem_cons.mpr ⟨fun _ => ⟨_, (PySem.W.fnOf "led_form" "led_form" (defArgs (top 19)) (defBody (top 19)) (defScope (top 19)) .none kV12 dc12 pm12 an12 cd12 ct12), F12, PySem.W.mg_of X G a12, bds_of B12 (by decide +kernel)⟩, List.forall_mem_cons.mpr ⟨fun _ => ⟨_, (PySem.W.fnOf "matrix_product" "matrix_product" (defArgs (top 20)) (defBody (top 20)) (defScope (top 20)) .none kV13 dc13 pm13 an13 cd13 ct13), F13, PySem.W.mg_of X G a13, bds_of B13 (by decide +kernel)⟩, List.forall_mem_cons.mpr ⟨fun _ => ⟨_, (PySem.W.fnOf "reduced" "reduced" (defArgs (top 21)) (defBody (top 21)) (defScope (top 21)) .none kV14 dc14 pm14 an14 cd14 ct14), F14, PySem.W.mg_of X G a14, bds_of B14 (by decide +kernel)⟩, List.forall_mem_cons.mpr ⟨fun _ => ⟨_, (PySem.W.fnOf "_law_deck" "_law_deck" (defArgs (top 23)) (defBody (top 23)) (defScope (top 23)) .none kV15 dc15 pm15 an15 cd15 ct15), F15, PySem.W.mg_of X G a15, bds_of B15 (by decide +kernel)⟩, List.forall_mem_cons.mpr ⟨fun _ => ⟨_, (PySem.W.fnOf "_law_draw" "_law_draw" (defArgs (top 24)) (defBody (top 24)) (defScope (top 24)) .none kV16 dc16 pm16 an16 cd16 ct16), F16, PySem.W.mg_of X G a16, bds_of B16 (by decide +kernel)⟩, List.forall_mem_cons.mpr ⟨fun _ => ⟨_, (PySem.W.fnOf "_law_pick" "_law_pick" (defArgs (top 25)) (defBody (top 25)) (defScope (top 25)) .none kV17 dc17 pm17 an17 cd17 ct17), F17, PySem.W.mg_of X G a17, bds_of B17 (by decide +kernel)⟩, List.forall_mem_cons.mpr ⟨fun _ => ⟨_, (PySem.W.fnOf "_law_gcd" "_law_gcd" (defArgs (top 26)) (defBody (top 26)) (defScope (top 26)) .none kV18 dc18 pm18 an18 cd18 ct18), F18, PySem.W.mg_of X G a18, bds_of B18 (by decide +kernel)⟩, List.forall_mem_cons.mpr ⟨fun _ => ⟨_, (PySem.W.fnOf "_law_discriminant" "_law_discriminant" (defArgs (top 27)) (defBody (top 27)) (defScope (top 27)) .none kV19 dc19 pm19 an19 cd19 ct19), F19, PySem.W.mg_of X G a19, bds_of B19 (by decide +kernel)⟩, List.forall_mem_cons.mpr ⟨fun _ => ⟨_, (PySem.W.fnOf "_law_classes" "_law_classes" (defArgs (top 28)) (defBody (top 28)) (defScope (top 28)) .none kV20 dc20 pm20 an20 cd20 ct20), F20, PySem.W.mg_of X G a20, bds_of B20 (by decide +kernel)⟩, List.forall_mem_cons.mpr ⟨fun _ => ⟨_, (PySem.W.fnOf "_law_led" "_law_led" (defArgs (top 29)) (defBody (top 29)) (defScope (top 29)) .none kV21 dc21 pm21 an21 cd21 ct21), F21, PySem.W.mg_of X G a21, bds_of B21 (by decide +kernel)⟩, List.forall_mem_cons.mpr ⟨fun _ => ⟨_, (PySem.W.fnOf "_law_times" "_law_times" (defArgs (top 30)) (defBody (top 30)) (defScope (top 30)) .none kV22 dc22 pm22 an22 cd22 ct22), F22, PySem.W.mg_of X G a22, bds_of B22 (by decide +kernel)⟩, List.forall_mem_cons.mpr ⟨fun _ => ⟨_, (PySem.W.fnOf "_law_matrix" "_law_matrix" (defArgs (top 31)) (defBody (top 31)) (defScope (top 31)) .none kV23 dc23 pm23 an23 cd23 ct23), F23, PySem.W.mg_of X G a23, bds_of B23 (by decide +kernel)⟩, List.forall_mem_cons.mpr ⟨fun _ => ⟨_, (PySem.W.fnOf "_law_drawn_matrix" "_law_drawn_matrix" (defArgs (top 32)) (defBody (top 32)) (defScope (top 32)) .none kV24 dc24 pm24 an24 cd24 ct24), F24, PySem.W.mg_of X G a24, bds_of B24 (by decide +kernel)⟩, List.forall_mem_cons.mpr ⟨fun _ => ⟨_, (PySem.W.fnOf "_law_integer" "_law_integer" (defArgs (top 33)) (defBody (top 33)) (defScope (top 33)) .none kV25 dc25 pm25 an25 cd25 ct25), F25, PySem.W.mg_of X G a25, bds_of B25 (by decide +kernel)⟩, List.forall_mem_cons.mpr ⟨fun _ => ⟨_, (PySem.W.fnOf "_law_value" "_law_value" (defArgs (top 34)) (defBody (top 34)) (defScope (top 34)) .none kV26 dc26 pm26 an26 cd26 ct26), F26, PySem.W.mg_of X G a26, bds_of B26 (by decide +kernel)⟩, List.forall_mem_cons.mpr ⟨fun _ => ⟨_, (PySem.W.fnOf "_law_is_led_right" "_law_is_led_right" (defArgs (top 35)) (defBody (top 35)) (defScope (top 35)) .none kV27 dc27 pm27 an27 cd27 ct27), F27, PySem.W.mg_of X G a27, bds_of B27 (by decide +kernel)⟩, List.forall_mem_cons.mpr ⟨fun _ => ⟨_, (PySem.W.fnOf "law" "law" (defArgs (top 36)) (defBody (top 36)) (defScope (top 36)) .none kV28 dc28 pm28 an28 cd28 ct28), F28, PySem.W.mg_of X G a28, bds_of B28 (by decide +kernel)⟩, List.forall_mem_nil _⟩⟩⟩⟩⟩⟩⟩⟩⟩⟩⟩⟩⟩⟩⟩⟩⟩⟩⟩⟩⟩⟩⟩⟩⟩⟩⟩⟩⟩
    cls := List.forall_mem_nil _
    all := by decide +kernel }
  exact ⟨(PySem.W.fnOf "law" "law" (defArgs (top 36)) (defBody (top 36)) (defScope (top 36)) .none kV28 dc28 pm28 an28 cd28 ct28), fun s v => .of_eq rfl, fun base _ _ => (levels hM (fun e he => ⟨ents_ok e he, lookup_nd ents_nd e (List.mem_append_left _ he)⟩) (fun e he => ⟨cents_ok e he, lookup_nd ents_nd e (List.mem_append_right _ he)⟩) 20) e_law (by simp [ents]) _ _ _ _ F28⟩

-- CASES a0 l0 c0 k0 a1 l1 c1 k1 a2 l2 c2 k2 a3 l3 c3 k3 a4 l4 c4 k4 a5 l5 c5 k5 a6 l6 c6 k6 a7 l7 c7 k7 a8 l8 c8 k8 a9 l9 c9 k9 a10 l10 c10 k10 a11 l11 c11 k11 a12 l12 c12 k12 a13 l13 c13 k13 a14 l14 c14 k14 a15 l15 c15 k15 a16 l16 c16 k16 a17 l17 c17 k17 a18 l18 c18 k18 a19 l19 c19 k19 a20 l20 c20 k20 a21 l21 c21 k21 a22 l22 c22 k22 a23 l23 c23 k23 a24 l24 c24 k24 a25 l25 c25 k25 a26 l26 c26 k26 a27 l27 c27 k27 a28 l28 c28 k28 z0 z1 z2 z3 z4 z5 z6 z7 z8 z9 z10 v0
end Pi.K37
/-! K37b: the deck -/
namespace Pi.K37
open PySem L2
def deckL (l : List Int) (m d : Int) : List (Key × D) := [(.inr "rest", .lst (l.map .int)), (.inr "mixed", .int m), (.inr "turn", .int d)]
theorem lk_draw : defs.lookup ("_law_draw" : Str) = some d__law_draw := by rfl
theorem n1 : (.inr ("rest" : Str) : Key) ≠ .inr ("mixed" : Str) := by decide +kernel
theorem n2 : (.inr ("rest" : Str) : Key) ≠ .inr ("turn" : Str) := by decide +kernel
theorem n3 : (.inr ("mixed" : Str) : Key) ≠ .inr ("turn" : Str) := by decide +kernel
theorem g_rest {l : List Int} {m d : Int} : getK (deckL l m d) (.inr "rest") = some (.lst (l.map .int)) := by
  unfold deckL; exact getK_y
theorem g_mixed {l : List Int} {m d : Int} : getK (deckL l m d) (.inr "mixed") = some (.int m) := by
  unfold deckL; rw [getK_n n1, getK_y]
theorem g_turn {l : List Int} {m d : Int} : getK (deckL l m d) (.inr "turn") = some (.int d) := by
  unfold deckL; rw [getK_n n2, getK_n n3, getK_y]
theorem p_rest {l l' : List Int} {m d : Int} : putD (deckL l m d) (.inr "rest") (.lst (l'.map .int)) = deckL l' m d := by
  exact putD_y
theorem p_turn {l : List Int} {m d d' : Int} : putD (deckL l m d) (.inr "turn") (.int d') = deckL l m d' := by
  unfold deckL; rw [putD_n n2, putD_n n3, putD_y]
theorem deck_len {l : List Int} {m d : Int} : (deckL l m d).length < sizeLine := by simp [deckL]; decide
theorem kk {l : List Int} {m d : Int} {mm : Mm} (h : mmK mm = 1) : (kndK (some (.dk (deckL l m d), 2)) "rest" != mmK mm) = false := by
  have : kndK (some (.dk (deckL l m d), 2)) "rest" = 1 := by simp only [kndK, g_rest, kndD]
  rw [this, h]; rfl
theorem powD_c {n : Int} {k : Nat} (hn : n = (k : Int)) (h : k ≤ 1000000) : op2D .Pow (.int 10) (.int n) = some (.int (10 ^ k)) := by
  subst hn
  rw [op2_pow]
  show (if (decide ((0 : Int) ≤ (k : Int)) && decide ((k : Int) ≤ 1000000) && decide ((10 : Int).natAbs < 2 ^ 64)) = true then some (D.int ((10 : Int) ^ ((k : Int)).toNat)) else none) = _
  rw [if_pos (by simp only [Bool.and_eq_true, decide_eq_true_eq]; omega), Int.toNat_natCast]
theorem pow6 : op2D .Pow (.int 10) (.int 6) = some (.int (10 ^ 6)) := powD_c (k := 6) rfl (by decide)
theorem pow24 : op2D .Pow (.int 10) (.int 24) = some (.int (10 ^ 24)) := powD_c (k := 24) rfl (by decide)
theorem lt_size63 {n : Nat} (h : n ≤ 63) : n < sizeLine := Nat.lt_of_le_of_lt h (by decide)
theorem nil_ne {cf : Cf} {ρ : Env} : ev cf (.lst 0 .nil) ρ = .ok (.lst [], 1) ρ := by
  have h0 : (decide (0 ≤ sizeLine)) = true := by simp
  simp only [ev, evA, bind_ok, valsA, of_some, List.all_nil, List.length_nil, h0, Bool.and_self, if_true, demL, List.map_nil]
theorem ne_nil (ns : List Int) : cmpD .NotEq (.lst (ns.map .int)) (.lst []) = some (!ns.isEmpty) := by
  show (eqD _ _).map (!·) = _
  rw [eqD_nil]; rfl
theorem pop_i {l : List Int} (hl : l ≠ []) : mutD .pop (.lst (l.map .int)) 1 [] = some ((.int (l.getLast hl), 0), .lst (l.dropLast.map .int)) := by
  have : (l.map D.int)[(l.map D.int).length - 1]? = some (.int (l.getLast hl)) := by
    rw [List.length_map, List.getElem?_map, ← List.getLast?_eq_getElem?, List.getLast?_eq_getLast hl]; rfl
  simp only [mutD, this, Option.map_some, List.map_dropLast, Nat.sub_self]
theorem app_i {l : List Int} {x : Int} (hl : l.length < sizeLine) : mutD .append (.lst (l.map .int)) 1 [(.int x, 0)] = some ((.non, 0), .lst ((l ++ [x]).map .int)) := by
  have : ((l.map D.int).length < sizeLine) := by simpa using hl
  simp only [mutD, decide_eq_true this, hasd_i, Bool.and_self, if_true, List.map_append, List.map_cons, List.map_nil]
theorem mulOk_r {a b : Int} (hb : b.natAbs < 2 ^ 64) : mulOk a b = true := by
  simp only [mulOk, Bool.or_eq_true, decide_eq_true_eq]
  exact .inl (.inr hb)
theorem setT1 {l : List Int} {m d x : Int} : setD (.dk (deckL l m d)) (1 + 1) (.str "turn") (.int x, 0) = some (.dk (deckL l m x)) := by
  rw [setD_dk deck_len hasd_i, p_turn]
theorem draw_body {cf : Cf} {l : List Int} {m d many : Int} (hm : 0 < many) (hm2 : many < 1073741824) (hl : l.length ≤ 63) (hd0 : 0 ≤ d) (hd1 : d ≤ 10 ^ 15) :
    (exec cf d__law_draw.body [some (.dk (deckL l m d), 2), some (.int many, 0), none, none]).W fun fl ρ => ∃ r l', fl = .rt (.int r, 0) ∧ gt ρ 0 = some (.dk (deckL l' m (d + 1)), 2) ∧ 0 ≤ r ∧ r < many ∧ l'.length ≤ 63 := by
  have hd : divOk (if many > 2 then many else 2) = true := by split <;> simp [divOk] <;> omega
  have a5 : divOk 64 = true := by decide
  have a1 : mulOk 40692 (d + 1) = true := by simp [mulOk]
  have a2 : mulOk (40692 * (d + 1)) (d + 1) = true := mulOk_r (by omega)
  have a3 : mulOk (d + 1) 7919 = true := by simp [mulOk]
  unfold d__law_draw
  simp only [W_seq, W_skip, W_asg, W_asgT, W_asgN, W_expr, W_ret, W_retn, W_brk, W_cnt, W_if, W_setix, W_par, W_ok, W_bind, kq_nx, kq_rt, kq_bk, kq_ct, iW_t, iW_f, wK_nx, wK_ct, wK_bk, wK_rt, wT_t, wT_f, fK_nx, fK_ct, fK_bk, fK_rt, fT_nm, tW, setT, setT.go, setT.go1, setixQ, parQ, setAll, szl0, szl1, szl2, szl3, szl4, szl5, szl6, szl7, szl8, szl9, szl10, szl11, szl12, szl13, szl14, Option.isSome_some, Option.isNone_none, List.getElem?_cons_zero, List.getElem?_cons_succ, Option.getD_some, ev, evA, evT, evO, gt, st, bind_ok, of_some, valsA, Option.map_some, demL, List.map_cons, List.map_nil, resolveA, List.all_nil, List.all_cons, if_true, Bool.false_eq_true, if_false, selL0, backsTo, op2_add, op2_sub, op2_mul, op2_mod, op2_fdiv, op2_and, addD_i, subD_i, fr_i, fr_b, fr_t, fr_l, fr_s, fr_n, hasd_0, hasd_i, Bool.and_self, Bool.and_true, nofz_i, nofz_b, intB_i, lenB_l, lenB_t, listB_t, tupB_l, maxB_i, cmp_lt, cmp_gt, cmp_ge, cmp_le, cmp_eq, cmp_ne, truthD_b, Option.isNone_some, List.length_map, ixD_dk, g_turn, g_rest, g_mixed, if_true, hasd_i, setT1, nil_ne, ne_nil]
  cases hle : l.isEmpty with
  | true =>
    simp only [W_seq, W_skip, W_asg, W_asgT, W_asgN, W_expr, W_ret, W_retn, W_brk, W_cnt, W_if, W_setix, W_par, W_ok, W_bind, kq_nx, kq_rt, kq_bk, kq_ct, iW_t, iW_f, wK_nx, wK_ct, wK_bk, wK_rt, wT_t, wT_f, fK_nx, fK_ct, fK_bk, fK_rt, fT_nm, tW, setT, setT.go, setT.go1, setixQ, parQ, setAll, szl0, szl1, szl2, szl3, szl4, szl5, szl6, szl7, szl8, szl9, szl10, szl11, szl12, szl13, szl14, Option.isSome_some, Option.isNone_none, List.getElem?_cons_zero, List.getElem?_cons_succ, Option.getD_some, ev, evA, evT, evO, gt, st, bind_ok, of_some, valsA, Option.map_some, demL, List.map_cons, List.map_nil, resolveA, List.all_nil, List.all_cons, if_true, Bool.false_eq_true, if_false, selL0, backsTo, op2_add, op2_sub, op2_mul, op2_mod, op2_fdiv, op2_and, addD_i, subD_i, fr_i, fr_b, fr_t, fr_l, fr_s, fr_n, hasd_0, hasd_i, Bool.and_self, Bool.and_true, nofz_i, nofz_b, intB_i, lenB_l, lenB_t, listB_t, tupB_l, maxB_i, cmp_lt, cmp_gt, cmp_ge, cmp_le, cmp_eq, cmp_ne, truthD_b, Option.isNone_some, List.length_map, Bool.not_true, ixD_dk, g_turn, g_rest, g_mixed, mulD_i a1, mulD_i a2, modD_i (j := 2147483399) (by decide)]
    have b1 : 0 ≤ (m + 40692 * (d + 1) * (d + 1)) % 2147483399 := Int.emod_nonneg _ (by decide)
    have b2 : (m + 40692 * (d + 1) * (d + 1)) % 2147483399 < 2147483399 := Int.emod_lt_of_pos _ (by decide)
    generalize (m + 40692 * (d + 1) * (d + 1)) % 2147483399 = g at *
    have a4 : mulOk g g = true := mulOk_small (by omega)
    have b3 : 0 ≤ (g * g) % 2147483563 := Int.emod_nonneg _ (by decide)
    have b4 : (g * g) % 2147483563 < 2147483563 := Int.emod_lt_of_pos _ (by decide)
    simp only [mulD_i a4, W_seq, W_skip, W_asg, W_asgT, W_asgN, W_expr, W_ret, W_retn, W_brk, W_cnt, W_if, W_setix, W_par, W_ok, W_bind, kq_nx, kq_rt, kq_bk, kq_ct, iW_t, iW_f, wK_nx, wK_ct, wK_bk, wK_rt, wT_t, wT_f, fK_nx, fK_ct, fK_bk, fK_rt, fT_nm, tW, setT, setT.go, setT.go1, setixQ, parQ, setAll, szl0, szl1, szl2, szl3, szl4, szl5, szl6, szl7, szl8, szl9, szl10, szl11, szl12, szl13, szl14, Option.isSome_some, Option.isNone_none, List.getElem?_cons_zero, List.getElem?_cons_succ, Option.getD_some, ev, evA, evT, evO, gt, st, bind_ok, of_some, valsA, Option.map_some, demL, List.map_cons, List.map_nil, resolveA, List.all_nil, List.all_cons, if_true, Bool.false_eq_true, if_false, selL0, backsTo, op2_add, op2_sub, op2_mul, op2_mod, op2_fdiv, op2_and, addD_i, subD_i, fr_i, fr_b, fr_t, fr_l, fr_s, fr_n, hasd_0, hasd_i, Bool.and_self, Bool.and_true, nofz_i, nofz_b, intB_i, lenB_l, lenB_t, listB_t, tupB_l, maxB_i, cmp_lt, cmp_gt, cmp_ge, cmp_le, cmp_eq, cmp_ne, truthD_b, Option.isNone_some, List.length_map, modD_i (j := 2147483563) (by decide)]
    generalize (g * g) % 2147483563 = g2 at *
    have a6 : mulOk g2 39373 = true := mulOk_small (by omega)
    simp only [mulD_i a6, mulD_i a3, W_seq, W_skip, W_asg, W_asgT, W_asgN, W_expr, W_ret, W_retn, W_brk, W_cnt, W_if, W_setix, W_par, W_ok, W_bind, kq_nx, kq_rt, kq_bk, kq_ct, iW_t, iW_f, wK_nx, wK_ct, wK_bk, wK_rt, wT_t, wT_f, fK_nx, fK_ct, fK_bk, fK_rt, fT_nm, tW, setT, setT.go, setT.go1, setixQ, parQ, setAll, szl0, szl1, szl2, szl3, szl4, szl5, szl6, szl7, szl8, szl9, szl10, szl11, szl12, szl13, szl14, Option.isSome_some, Option.isNone_none, List.getElem?_cons_zero, List.getElem?_cons_succ, Option.getD_some, ev, evA, evT, evO, gt, st, bind_ok, of_some, valsA, Option.map_some, demL, List.map_cons, List.map_nil, resolveA, List.all_nil, List.all_cons, if_true, Bool.false_eq_true, if_false, selL0, backsTo, op2_add, op2_sub, op2_mul, op2_mod, op2_fdiv, op2_and, addD_i, subD_i, fr_i, fr_b, fr_t, fr_l, fr_s, fr_n, hasd_0, hasd_i, Bool.and_self, Bool.and_true, nofz_i, nofz_b, intB_i, lenB_l, lenB_t, listB_t, tupB_l, maxB_i, cmp_lt, cmp_gt, cmp_ge, cmp_le, cmp_eq, cmp_ne, truthD_b, Option.isNone_some, List.length_map, ixD_dk, g_turn, modD_i (j := 2147483629) (by decide), fdivD_i a5, modD_i hm]
    exact ⟨_, l, rfl, rfl, Int.emod_nonneg _ (by omega), Int.emod_lt_of_pos _ hm, hl⟩
  | false =>
    have hne : l ≠ [] := by
      rintro rfl
      cases hle
    have hl' : l.dropLast.length ≤ 63 := by simp; omega
    simp only [W_seq, W_skip, W_asg, W_asgT, W_asgN, W_expr, W_ret, W_retn, W_brk, W_cnt, W_if, W_setix, W_par, W_ok, W_bind, kq_nx, kq_rt, kq_bk, kq_ct, iW_t, iW_f, wK_nx, wK_ct, wK_bk, wK_rt, wT_t, wT_f, fK_nx, fK_ct, fK_bk, fK_rt, fT_nm, tW, setT, setT.go, setT.go1, setixQ, parQ, setAll, szl0, szl1, szl2, szl3, szl4, szl5, szl6, szl7, szl8, szl9, szl10, szl11, szl12, szl13, szl14, Option.isSome_some, Option.isNone_none, List.getElem?_cons_zero, List.getElem?_cons_succ, Option.getD_some, ev, evA, evT, evO, gt, st, bind_ok, of_some, valsA, Option.map_some, demL, List.map_cons, List.map_nil, resolveA, List.all_nil, List.all_cons, if_true, Bool.false_eq_true, if_false, selL0, backsTo, op2_add, op2_sub, op2_mul, op2_mod, op2_fdiv, op2_and, addD_i, subD_i, fr_i, fr_b, fr_t, fr_l, fr_s, fr_n, hasd_0, hasd_i, Bool.and_self, Bool.and_true, nofz_i, nofz_b, intB_i, lenB_l, lenB_t, listB_t, tupB_l, maxB_i, cmp_lt, cmp_gt, cmp_ge, cmp_le, cmp_eq, cmp_ne, truthD_b, Option.isNone_some, List.length_map, Bool.not_false, kk (mm := .pop) rfl, g_rest, pop_i hne, p_rest, pow6]
    by_cases hc : (10 : Int) ^ 6 ≤ l.getLast hne
    · simp only [decide_eq_true hc, W_seq, W_skip, W_asg, W_asgT, W_asgN, W_expr, W_ret, W_retn, W_brk, W_cnt, W_if, W_setix, W_par, W_ok, W_bind, kq_nx, kq_rt, kq_bk, kq_ct, iW_t, iW_f, wK_nx, wK_ct, wK_bk, wK_rt, wT_t, wT_f, fK_nx, fK_ct, fK_bk, fK_rt, fT_nm, tW, setT, setT.go, setT.go1, setixQ, parQ, setAll, szl0, szl1, szl2, szl3, szl4, szl5, szl6, szl7, szl8, szl9, szl10, szl11, szl12, szl13, szl14, Option.isSome_some, Option.isNone_none, List.getElem?_cons_zero, List.getElem?_cons_succ, Option.getD_some, ev, evA, evT, evO, gt, st, bind_ok, of_some, valsA, Option.map_some, demL, List.map_cons, List.map_nil, resolveA, List.all_nil, List.all_cons, if_true, Bool.false_eq_true, if_false, selL0, backsTo, op2_add, op2_sub, op2_mul, op2_mod, op2_fdiv, op2_and, addD_i, subD_i, fr_i, fr_b, fr_t, fr_l, fr_s, fr_n, hasd_0, hasd_i, Bool.and_self, Bool.and_true, nofz_i, nofz_b, intB_i, lenB_l, lenB_t, listB_t, tupB_l, maxB_i, cmp_lt, cmp_gt, cmp_ge, cmp_le, cmp_eq, cmp_ne, truthD_b, Option.isNone_some, List.length_map, kk (mm := .append) rfl, fdivD_i hd, app_i (lt_size63 hl'), g_rest, p_rest, modD_i hm]
      refine ⟨_, _, rfl, rfl, Int.emod_nonneg _ (by omega), Int.emod_lt_of_pos _ hm, ?_⟩
      have : 0 < l.length := List.length_pos_iff.mpr hne
      simp; omega
    · simp only [decide_eq_false hc, W_seq, W_skip, W_asg, W_asgT, W_asgN, W_expr, W_ret, W_retn, W_brk, W_cnt, W_if, W_setix, W_par, W_ok, W_bind, kq_nx, kq_rt, kq_bk, kq_ct, iW_t, iW_f, wK_nx, wK_ct, wK_bk, wK_rt, wT_t, wT_f, fK_nx, fK_ct, fK_bk, fK_rt, fT_nm, tW, setT, setT.go, setT.go1, setixQ, parQ, setAll, szl0, szl1, szl2, szl3, szl4, szl5, szl6, szl7, szl8, szl9, szl10, szl11, szl12, szl13, szl14, Option.isSome_some, Option.isNone_none, List.getElem?_cons_zero, List.getElem?_cons_succ, Option.getD_some, ev, evA, evT, evO, gt, st, bind_ok, of_some, valsA, Option.map_some, demL, List.map_cons, List.map_nil, resolveA, List.all_nil, List.all_cons, if_true, Bool.false_eq_true, if_false, selL0, backsTo, op2_add, op2_sub, op2_mul, op2_mod, op2_fdiv, op2_and, addD_i, subD_i, fr_i, fr_b, fr_t, fr_l, fr_s, fr_n, hasd_0, hasd_i, Bool.and_self, Bool.and_true, nofz_i, nofz_b, intB_i, lenB_l, lenB_t, listB_t, tupB_l, maxB_i, cmp_lt, cmp_gt, cmp_ge, cmp_le, cmp_eq, cmp_ne, truthD_b, Option.isNone_some, List.length_map, modD_i hm]
      exact ⟨_, _, rfl, rfl, Int.emod_nonneg _ (by omega), Int.emod_lt_of_pos _ hm, hl'⟩
def DeckOk (k : Int) (d : D) : Prop := ∃ l m c, d = .dk (deckL l m c) ∧ l.length ≤ 63 ∧ 0 ≤ c ∧ c ≤ k
theorem DeckOk.mono {k k' : Int} {d : D} (h : DeckOk k d) (hk : k ≤ k') : DeckOk k' d := by
  obtain ⟨l, m, c, e, h1, h2, h3⟩ := h
  exact ⟨l, m, c, e, h1, h2, by omega⟩
theorem draw_F {fuel k : Nat} {n many : Int} {d : D} (hd : DeckOk n d) (hn : n ≤ 10 ^ 15) (hm : 0 < many) (hm2 : many < 1073741824) :
    ∃ r d', callN defs con fuel (k + 1) "_law_draw" [(d, 2), (.int many, 0)] = .ok (.int r, 0) [some (d', 2), none] ∧ 0 ≤ r ∧ r < many ∧ DeckOk (n + 1) d' := by
  obtain ⟨l, m, c, rfl, hl, h0, h1⟩ := hd
  obtain ⟨v, outs, h, r, l', e1, e2, q1, q2, q3⟩ := callN_W (R := fun v outs => ∃ r l', v = (.int r, 0) ∧ outs = [some (.dk (deckL l' m (c + 1)), 2), none] ∧ 0 ≤ r ∧ r < many ∧ l'.length ≤ 63) (fuel := fuel) (k := k) (con := con) (args := [(.dk (deckL l m c), 2), (.int many, 0)]) lk_draw rfl rfl
    (W_imp (draw_body hm hm2 hl h0 (by omega)) (by
      rintro fl ρ ⟨r, l', rfl, e, q⟩
      refine ⟨r, l', rfl, ?_, q⟩
      have : outsOf d__law_draw ρ = [gt ρ 0, none] := rfl
      rw [this, e]))
  subst e1 e2
  exact ⟨r, _, h, q1, q2, l', m, c + 1, rfl, q3, by omega, by omega⟩
theorem lk_deck : defs.lookup ("_law_deck" : Str) = some d__law_deck := by rfl
theorem cut_ints (ns : List Int) : cutD (ns.map D.int) none (some 63) = (ns.take 63).map .int := by
  have := cut_to (l := ns.map D.int) (n := 63)
  rw [show (63 : Int) = ((63 : Nat) : Int) from rfl, this, List.map_take]
theorem slD_scr (ns : List Int) : slD (.scr ns) none (some 63) = some (.lst ((ns.take 63).map .int)) := by
  simp only [slD, cut_ints]
theorem pairs3 {a b c : D} : pairsK [.str "rest", a, .str "mixed", b, .str "turn", c] = some [(.inr "rest", a), (.inr "mixed", b), (.inr "turn", c)] := rfl
theorem merge3 {a b c : D} : mergeD [] [((.inr ("rest" : Str) : Key), a), (.inr ("mixed" : Str), b), (.inr ("turn" : Str), c)] = [(.inr ("rest" : Str), a), (.inr ("mixed" : Str), b), (.inr ("turn" : Str), c)] := by
  simp only [mergeD]
  rw [show putD ([] : List (Key × D)) (.inr ("rest" : Str)) a = [(.inr ("rest" : Str), a)] from rfl, putD_n n1, show putD ([] : List (Key × D)) (.inr ("mixed" : Str)) b = [(.inr ("mixed" : Str), b)] from rfl, putD_n n2, putD_n n3]
  rfl
def lcE : Ex := (.lc 0 [3] (.op2 .Mod (.blt .int (.cons (.var 3) .nil)) (.op2 .Add (.op2 .Pow (.int 10) (.int 24)) (.int 7))) (.nm 3) (.ival (.sl (.var 0) .nil (.ival (.int 63)))) .tyes)
theorem lc_run {cf : Cf} (ns : List Int) : ev cf lcE [some (.scr ns, 0), none, none, none] = .ok (.lst (((ns.take 63).map fun x => x % (10 ^ 24 + 7)).map .int), 1) [some (.scr ns, 0), none, none, none] := by
  have hi : evI cf (.ival (.sl (.var 0) .nil (.ival (.int 63)))) [some (.scr ns, 0), none, none, none] = .ok ((ns.take 63).map .int) [some (.scr ns, 0), none, none, none] := by
    simp only [evI, ev, evO, gt, st, bind_ok, of_some, slD_scr, fr_l, itemsD]
  obtain ⟨ρ, hl, hρ⟩ := lcl_fun (f := lcF cf 0 [3] (.op2 .Mod (.blt .int (.cons (.var 3) .nil)) (.op2 .Add (.op2 .Pow (.int 10) (.int 24)) (.int 7))) (.nm 3) .tyes) D.int (fun x => D.int (x % (10 ^ 24 + 7))) (fun ρ => ρ = [some (.scr ns, 0), none, none, none]) (ns.take 63) _ rfl (fun x _ ρ hρ => by
    subst hρ
    refine ⟨_, lcF_ok (s := (.int (x % (10 ^ 24 + 7)), 0)) (ρ2 := [some (.scr ns, 0), none, none, some (.int x, 0)]) (ρ3 := [some (.scr ns, 0), none, none, some (.int x, 0)]) (ρ4 := [some (.scr ns, 0), none, none, some (.int x, 0)]) rfl rfl ?_ hasd_0, rfl⟩
    simp only [exec, ev, evA, evT, evO, gt, st, bind_ok, of_some, valsA, Option.map_some, demL, List.map_cons, List.map_nil, resolveA, List.all_nil, List.all_cons, if_true, Bool.false_eq_true, if_false, selL0, backsTo, op2_add, op2_sub, op2_mul, op2_mod, op2_fdiv, op2_and, addD_i, subD_i, fr_i, fr_b, fr_t, fr_l, fr_s, fr_n, hasd_0, hasd_i, Bool.and_self, Bool.and_true, nofz_i, nofz_b, intB_i, lenB_l, lenB_t, listB_t, tupB_l, maxB_i, cmp_lt, cmp_gt, cmp_ge, cmp_le, cmp_eq, cmp_ne, truthD_b, Option.isNone_some, List.length_map, pow24, modD_i (show (0 : Int) < 10 ^ 24 + 7 by decide)])
  have h := ev_lcx (k := 0) (own := [3]) hi hl (by rw [List.length_map]; exact len_size (by simp; omega))
  subst hρ
  rw [lcE, h, List.map_map]
  rfl
theorem deck_loop {cf : Cf} {y z : Option Sl} {l : List Int} : ∀ m : Int, evI cf (.ival (.var 1)) [y, some (.lst (l.map .int), 1), some (.int m, 0), z] = .ok (l.map .int) [y, some (.lst (l.map .int), 0), some (.int m, 0), z] := by
  intro m
  simp only [evI, ev, gt, st, bind_ok, itemsD, of_some]
theorem rev_i {l : List Int} : revD (.lst (l.map .int)) = some (.lst (l.reverse.map .int)) := by simp [revD]
theorem deck_body {cf : Cf} {ns : List Int} : (exec cf d__law_deck.body [some (.scr ns, 0), none, none, none]).W fun fl ρ => ∃ d, fl = .rt (d, 2) ∧ DeckOk 0 d := by
  have e0 : d__law_deck.body = (.seq (.par [1, 2] (.cons lcE (.cons (.int 1087637) .nil)))
    (.seq (.fors none (.nm 3) (.ival (.var 1))
    (.asg (.nm 2) (.op2 .Mod (.blt .int (.cons (.op2 .Add (.op2 .Add (.op2 .Mult (.var 2) (.int 69621)) (.op2 .Mod (.blt .int (.cons (.var 3) .nil)) (.int 2147483543))) (.int 37)) .nil)) (.int 2147483647))))
    (.ret (.dict 1 (.cons (.str "rest") (.cons (.rev (.var 1)) (.cons (.str "mixed") (.cons (.var 2) (.cons (.str "turn") (.cons (.int 0) .nil)))))))))) := rfl
  have hA : evA cf (.cons lcE (.cons (.int 1087637) .nil)) [some (.scr ns, 0), none, none, none] = .ok [.val (.lst (((ns.take 63).map fun x => x % (10 ^ 24 + 7)).map .int), 1), .val (.int 1087637, 0)] [some (.scr ns, 0), none, none, none] := by
    rw [evA]
    · rw [lc_run]
      simp only [bind_ok, evA, ev]
    · intro i h; cases h
  rw [e0]
  rw [W_seq, W_par, hA]
  have hlen : ((ns.take 63).map fun x => x % (10 ^ 24 + 7)).length ≤ 63 := by simp; omega
  generalize ((ns.take 63).map fun x => x % (10 ^ 24 + 7)) = l at *
  simp only [W_ok, parQ, valsA, Option.map_some, setAll, st, kq_nx, W_seq]
  refine W_for (fun j ρ => ∃ m x, ρ = [some (.scr ns, 0), some (.lst (l.map .int), 0), some (.int m, 0), x]) (deck_loop _) ⟨_, _, rfl⟩ ?_ ?_
  · rintro j x ρ hx ⟨m, y, rfl⟩
    rw [List.getElem?_map, Option.map_eq_some_iff] at hx
    obtain ⟨c, _, rfl⟩ := hx
    have a1 : mulOk m 69621 = true := by simp [mulOk]
    simp only [W_seq, W_skip, W_asg, W_asgT, W_asgN, W_expr, W_ret, W_retn, W_brk, W_cnt, W_if, W_setix, W_par, W_ok, W_bind, kq_nx, kq_rt, kq_bk, kq_ct, iW_t, iW_f, wK_nx, wK_ct, wK_bk, wK_rt, wT_t, wT_f, fK_nx, fK_ct, fK_bk, fK_rt, fT_nm, tW, setT, setT.go, setT.go1, setixQ, parQ, setAll, szl0, szl1, szl2, szl3, szl4, szl5, szl6, szl7, szl8, szl9, szl10, szl11, szl12, szl13, szl14, Option.isSome_some, Option.isNone_none, List.getElem?_cons_zero, List.getElem?_cons_succ, Option.getD_some, ev, evA, evT, evO, gt, st, bind_ok, of_some, valsA, Option.map_some, demL, List.map_cons, List.map_nil, resolveA, List.all_nil, List.all_cons, if_true, Bool.false_eq_true, if_false, selL0, backsTo, op2_add, op2_sub, op2_mul, op2_mod, op2_fdiv, op2_and, addD_i, subD_i, fr_i, fr_b, fr_t, fr_l, fr_s, fr_n, hasd_0, hasd_i, Bool.and_self, Bool.and_true, nofz_i, nofz_b, intB_i, lenB_l, lenB_t, listB_t, tupB_l, maxB_i, cmp_lt, cmp_gt, cmp_ge, cmp_le, cmp_eq, cmp_ne, truthD_b, Option.isNone_some, List.length_map, mulD_i a1, modD_i (i := c) (j := 2147483543) (by decide), modD_i (j := 2147483647) (by decide)]
    exact ⟨_, _, rfl⟩
  · rintro ρ ⟨m, y, rfl⟩
    have hz : (decide ((([(.str ("rest" : Str), 0), (.lst (l.reverse.map D.int), 1), (.str ("mixed" : Str), 0), (.int m, 0), (.str ("turn" : Str), 0), (.int 0, 0)] : List Sl)).length ≤ 30)) = true := by rfl
    have hh : hasd 1 (.lst (l.reverse.map D.int), 1) = true := by simp [hasd]
    simp only [W_seq, W_skip, W_asg, W_asgT, W_asgN, W_expr, W_ret, W_retn, W_brk, W_cnt, W_if, W_setix, W_par, W_ok, W_bind, kq_nx, kq_rt, kq_bk, kq_ct, iW_t, iW_f, wK_nx, wK_ct, wK_bk, wK_rt, wT_t, wT_f, fK_nx, fK_ct, fK_bk, fK_rt, fT_nm, tW, setT, setT.go, setT.go1, setixQ, parQ, setAll, szl0, szl1, szl2, szl3, szl4, szl5, szl6, szl7, szl8, szl9, szl10, szl11, szl12, szl13, szl14, Option.isSome_some, Option.isNone_none, List.getElem?_cons_zero, List.getElem?_cons_succ, Option.getD_some, ev, evA, evT, evO, gt, st, bind_ok, of_some, valsA, Option.map_some, demL, List.map_cons, List.map_nil, resolveA, List.all_nil, List.all_cons, if_true, Bool.false_eq_true, if_false, selL0, backsTo, op2_add, op2_sub, op2_mul, op2_mod, op2_fdiv, op2_and, addD_i, subD_i, fr_i, fr_b, fr_t, fr_l, fr_s, fr_n, hasd_0, hasd_i, Bool.and_self, Bool.and_true, nofz_i, nofz_b, intB_i, lenB_l, lenB_t, listB_t, tupB_l, maxB_i, cmp_lt, cmp_gt, cmp_ge, cmp_le, cmp_eq, cmp_ne, truthD_b, Option.isNone_some, List.length_map, rev_i, hasd_s, hh, hz, pairs3, merge3]
    exact ⟨_, rfl, l.reverse, m, 0, rfl, by simpa using hlen, by decide, by decide⟩
theorem deck_F {fuel k : Nat} (ns : List Int) : ∃ d, callN defs con fuel (k + 1) "_law_deck" [(.scr ns, 0)] = .ok (d, 2) [none] ∧ DeckOk 0 d := by
  obtain ⟨v, outs, h, d, e1, e2, q⟩ := callN_W (R := fun v outs => ∃ d, v = (d, 2) ∧ outs = [none] ∧ DeckOk 0 d) (fuel := fuel) (k := k) (con := con) (args := [(.scr ns, 0)]) lk_deck rfl rfl
    (W_imp deck_body (by
      rintro fl ρ ⟨d, rfl, q⟩
      exact ⟨d, rfl, rfl, q⟩))
  subst e1 e2
  exact ⟨d, h, q⟩
theorem lk_pick : defs.lookup ("_law_pick" : Str) = some d__law_pick := by rfl
theorem atI_some {l : List D} {r : Int} (h1 : 0 ≤ r) (h2 : r < l.length) : ∃ x ∈ l, atI l r = some x := by
  have hr : r.toNat < l.length := by omega
  refine ⟨l[r.toNat], List.getElem_mem hr, ?_⟩
  unfold atI ixN
  rw [if_pos h1, if_pos h2]
  simp [hr]
/-- a tuple or a list -/
def seqD (b : Bool) (l : List D) : D := if b then .tup l else .lst l
theorem pick_F {fuel k n : Nat} {c : Int} {d : D} {b : Bool} {l : List D} (hd : DeckOk c d) (hc : c ≤ 10 ^ 15) (h0 : 0 < l.length) (h1 : l.length < 1073741824) : ∃ x d', callN defs con fuel (k + 2) "_law_pick" [(d, 2), (seqD b l, n)] = .ok (x, 0) [some (d', 2), none] ∧ x ∈ l ∧ DeckOk (c + 1) d' := by
  obtain ⟨r, d', hr, hr1, hr2, hd'⟩ := draw_F (fuel := fuel) (k := k) (many := (l.length : Nat)) hd hc (by omega) (by omega)
  obtain ⟨x, hx, ha⟩ := atI_some hr1 hr2
  refine ⟨x, d', ?_, hx, hd'⟩
  have h3 : ev ⟨callN defs con fuel (k + 1), con, fuel⟩ (.ix (.var 1) (.call "_law_draw" (.cons (.lend 0) (.cons (.blt .len (.cons (.var 1) .nil)) .nil)) [] [(0, 0)])) [some (d, 2), some (seqD b l, n)] = .ok (x, 0) [some (d', 2), some (seqD b l, 0)] := by
    cases b
    · simp only [seqD, exec, ev, evA, evT, evO, gt, st, bind_ok, of_some, valsA, Option.map_some, demL, List.map_cons, List.map_nil, resolveA, List.all_nil, List.all_cons, if_true, Bool.false_eq_true, if_false, selL0, backsTo, op2_add, op2_sub, op2_mul, op2_mod, op2_fdiv, op2_and, addD_i, subD_i, fr_i, fr_b, fr_t, fr_l, fr_s, fr_n, hasd_0, hasd_i, Bool.and_self, Bool.and_true, nofz_i, nofz_b, intB_i, lenB_l, lenB_t, listB_t, tupB_l, maxB_i, cmp_lt, cmp_gt, cmp_ge, cmp_le, cmp_eq, cmp_ne, truthD_b, Option.isNone_some, List.length_map, Option.isSome_some, Option.isNone_none, List.getElem?_cons_zero, Option.getD_some, hr, ixD_l, ha]
    · simp only [seqD, exec, ev, evA, evT, evO, gt, st, bind_ok, of_some, valsA, Option.map_some, demL, List.map_cons, List.map_nil, resolveA, List.all_nil, List.all_cons, if_true, Bool.false_eq_true, if_false, selL0, backsTo, op2_add, op2_sub, op2_mul, op2_mod, op2_fdiv, op2_and, addD_i, subD_i, fr_i, fr_b, fr_t, fr_l, fr_s, fr_n, hasd_0, hasd_i, Bool.and_self, Bool.and_true, nofz_i, nofz_b, intB_i, lenB_l, lenB_t, listB_t, tupB_l, maxB_i, cmp_lt, cmp_gt, cmp_ge, cmp_le, cmp_eq, cmp_ne, truthD_b, Option.isNone_some, List.length_map, Option.isSome_some, Option.isNone_none, List.getElem?_cons_zero, Option.getD_some, hr, ixD_t, ha]
  exact callN_ok (df := d__law_pick) (args := [(d, 2), (seqD b l, n)]) (ρ0 := [some (d, 2), some (seqD b l, n)]) lk_pick rfl rfl (exec_ret h3)
end Pi.K37
/-! K37c: integers, matrices, forms -/
namespace Pi.K37
open PySem L2
theorem con0 : con[0]? = some (.int (-20000)) := rfl
theorem lk_isint : defs.lookup ("is_integer" : Str) = some d_is_integer := by rfl
theorem isint_run {fuel k : Nat} {i : Int} : callN defs con fuel (k + 1) "is_integer" [(.int i, 0)] = .ok (.bl true, 0) [none] := by
  refine callN_ok (df := d_is_integer) (args := [(.int i, 0)]) (ρ0 := [some (.int i, 0)]) (ρ := [some (.int i, 0)]) lk_isint rfl rfl ?_
  have e0 : d_is_integer.body = (.ret (.and (.isin (.var 0) .int) (.not (.isin (.var 0) .bool)))) := rfl
  rw [e0]
  simp only [exec, ev, gt, st, bind_ok, of_some, isinD, tyD, Option.map_some, truthD, Bool.not_false]
theorem lk_areint : defs.lookup ("are_integers" : Str) = some d_are_integers := by rfl
theorem isBls_true (n : Nat) : isBls (List.replicate n (D.bl true)) = some (List.replicate n true) := by
  induction n with
  | zero => rfl
  | succ n ih => rw [List.replicate_succ, isBls, ih]; rfl
theorem all_true (n : Nat) : (List.replicate n true).all id = true := by
  induction n with
  | zero => rfl
  | succ n ih => rw [List.replicate_succ, List.all_cons, ih]; rfl
theorem all_rep (n : Nat) : bltD .all [.lst (List.replicate n (D.bl true))] = some (.bl true) := by
  show (isBls (List.replicate n (D.bl true))).map (fun bs => D.bl (bs.all id)) = _
  rw [isBls_true, Option.map_some, all_true]
def lcA : Ex := (.lc 0 [2] (.call "is_integer" (.cons (.var 2) .nil) [] []) (.nm 2) (.ival (.var 0)) .tyes)
theorem areint_body {cf : Cf} {l : List Int} {n : Nat} (h1 : ∀ i : Int, cf.call "is_integer" [(.int i, 0)] = .ok (.bl true, 0) [none]) (hl : l.length = n) (hn : n ≤ 1000) :
    (exec cf d_are_integers.body [some (.tup (l.map .int), 0), some (.int (n : Int), 0), none]).W fun fl ρ => fl = .rt (.bl true, 0) := by
  have hlc : ev cf lcA [some (.tup (l.map .int), 0), some (.int (n : Int), 0), none] = .ok (.lst (List.replicate l.length (D.bl true)), 1) [some (.tup (l.map .int), 0), some (.int (n : Int), 0), none] := by
    obtain ⟨ρ, hl2, hρ⟩ := lcl_fun (f := lcF cf 0 [2] (.call "is_integer" (.cons (.var 2) .nil) [] []) (.nm 2) .tyes) D.int (fun _ => D.bl true) (fun ρ => ρ = [some (.tup (l.map .int), 0), some (.int (n : Int), 0), none]) l _ rfl (fun x _ ρ hρ => by
      subst hρ
      refine ⟨_, lcF_ok (s := (.bl true, 0)) (ρ2 := [some (.tup (l.map .int), 0), some (.int (n : Int), 0), some (.int x, 0)]) (ρ3 := [some (.tup (l.map .int), 0), some (.int (n : Int), 0), some (.int x, 0)]) (ρ4 := [some (.tup (l.map .int), 0), some (.int (n : Int), 0), some (.int x, 0)]) rfl rfl ?_ hasd_0, rfl⟩
      simp only [exec, ev, evA, evT, evO, gt, st, bind_ok, of_some, valsA, Option.map_some, demL, List.map_cons, List.map_nil, resolveA, List.all_nil, List.all_cons, if_true, Bool.false_eq_true, if_false, selL0, backsTo, op2_add, op2_sub, op2_mul, op2_mod, op2_fdiv, op2_and, addD_i, subD_i, fr_i, fr_b, fr_t, fr_l, fr_s, fr_n, hasd_0, hasd_i, Bool.and_self, Bool.and_true, nofz_i, nofz_b, intB_i, lenB_l, lenB_t, listB_t, tupB_l, maxB_i, cmp_lt, cmp_gt, cmp_ge, cmp_le, cmp_eq, cmp_ne, truthD_b, Option.isNone_some, List.length_map, h1])
    subst hρ
    have hi : evI cf (.ival (.var 0)) [some (.tup (l.map .int), 0), some (.int (n : Int), 0), none] = .ok (l.map .int) [some (.tup (l.map .int), 0), some (.int (n : Int), 0), none] := by
      simp only [evI, ev, gt, st, bind_ok, itemsD, of_some]
    have := ev_lcx (k := 0) (own := [2]) hi hl2 (by rw [List.length_map]; exact len_size (by omega))
    rw [lcA, this, List.map_const']
    rfl
  have e0 : d_are_integers.body = (.seq (.ifs (.tor (.tnot (.tval (.isin (.var 0) .tuple))) (.tcmp .NotEq (.blt .len (.cons (.var 0) .nil)) (.var 1)))
    (.ret (.bl false))
    .skip)
    (.ret (.blt .all (.cons lcA .nil)))) := rfl
  rw [e0]
  have hne : (!((l.length : Int) == (n : Int))) = false := by simp [hl]
  simp only [W_seq, W_skip, W_asg, W_asgT, W_asgN, W_expr, W_ret, W_retn, W_brk, W_cnt, W_if, W_setix, W_par, W_ok, W_bind, kq_nx, kq_rt, kq_bk, kq_ct, iW_t, iW_f, wK_nx, wK_ct, wK_bk, wK_rt, wT_t, wT_f, fK_nx, fK_ct, fK_bk, fK_rt, fT_nm, tW, setT, setT.go, setT.go1, setixQ, parQ, setAll, szl0, szl1, szl2, szl3, szl4, szl5, szl6, szl7, szl8, szl9, szl10, szl11, szl12, szl13, szl14, Option.isSome_some, Option.isNone_none, List.getElem?_cons_zero, List.getElem?_cons_succ, Option.getD_some, ev, evA, evT, evO, gt, st, bind_ok, of_some, valsA, Option.map_some, demL, List.map_cons, List.map_nil, resolveA, List.all_nil, List.all_cons, if_true, Bool.false_eq_true, if_false, selL0, backsTo, op2_add, op2_sub, op2_mul, op2_mod, op2_fdiv, op2_and, addD_i, subD_i, fr_i, fr_b, fr_t, fr_l, fr_s, fr_n, hasd_0, hasd_i, Bool.and_self, Bool.and_true, nofz_i, nofz_b, intB_i, lenB_l, lenB_t, listB_t, tupB_l, maxB_i, cmp_lt, cmp_gt, cmp_ge, cmp_le, cmp_eq, cmp_ne, truthD_b, Option.isNone_some, List.length_map, isinD, Bool.not_true, Bool.not_false, List.length_map, hne, evA_one (fun i h => by unfold lcA at h; cases h) hlc, all_rep]
theorem areint_run {fuel k n : Nat} {l : List Int} (hl : l.length = n) (hn : n ≤ 1000) : callN defs con fuel (k + 2) "are_integers" [(.tup (l.map .int), 0), (.int (n : Int), 0)] = .ok (.bl true, 0) [none, none] := by
  obtain ⟨v, outs, h, e1, e2⟩ := callN_W (R := fun v outs => v = (.bl true, 0) ∧ outs = [none, none]) (fuel := fuel) (k := k + 1) (con := con) (args := [(.tup (l.map .int), 0), (.int (n : Int), 0)]) lk_areint rfl rfl
    (W_imp (areint_body (fun i => isint_run) hl hn) (by
      rintro fl ρ rfl
      exact ⟨rfl, rfl⟩))
  subst e1 e2
  exact h
/-! ### common divisors -/
theorem lk_gcd : defs.lookup ("common_divisor" : Str) = some d_common_divisor := by rfl
theorem abs_i {i : Int} : bltD .abs [.int i] = some (.int (i.natAbs : Int)) := by
  show (some (D.int (if i < 0 then -i else i))) = _
  congr 2; split <;> omega
theorem gcd_step {x y : Nat} (h : y ≠ 0) : Nat.gcd y (x % y) = Nat.gcd x y := by
  rw [Nat.gcd_comm x y, Nat.gcd_rec y x, Nat.gcd_comm]
theorem truthI {i : Int} : truthD (.int i) = some (i != 0) := rfl
theorem gcd_body {cf : Cf} {a b : Int} (hf : b.natAbs < cf.fuel) : (exec cf d_common_divisor.body [some (.int a, 0), some (.int b, 0)]).W fun fl ρ => fl = .rt (.int (Int.gcd a b : Int), 0) := by
  unfold d_common_divisor
  simp only [W_seq, W_skip, W_asg, W_asgT, W_asgN, W_expr, W_ret, W_retn, W_brk, W_cnt, W_if, W_setix, W_par, W_ok, W_bind, kq_nx, kq_rt, kq_bk, kq_ct, iW_t, iW_f, wK_nx, wK_ct, wK_bk, wK_rt, wT_t, wT_f, fK_nx, fK_ct, fK_bk, fK_rt, fT_nm, tW, setT, setT.go, setT.go1, setixQ, parQ, setAll, szl0, szl1, szl2, szl3, szl4, szl5, szl6, szl7, szl8, szl9, szl10, szl11, szl12, szl13, szl14, Option.isSome_some, Option.isNone_none, List.getElem?_cons_zero, List.getElem?_cons_succ, Option.getD_some, ev, evA, evT, evO, gt, st, bind_ok, of_some, valsA, Option.map_some, demL, List.map_cons, List.map_nil, resolveA, List.all_nil, List.all_cons, if_true, Bool.false_eq_true, if_false, selL0, backsTo, op2_add, op2_sub, op2_mul, op2_mod, op2_fdiv, op2_and, addD_i, subD_i, fr_i, fr_b, fr_t, fr_l, fr_s, fr_n, hasd_0, hasd_i, Bool.and_self, Bool.and_true, nofz_i, nofz_b, intB_i, lenB_l, lenB_t, listB_t, tupB_l, maxB_i, cmp_lt, cmp_gt, cmp_ge, cmp_le, cmp_eq, cmp_ne, truthD_b, Option.isNone_some, List.length_map, abs_i]
  refine W_whl (fun m ρ => ∃ x y : Nat, ρ = [some (.int (x : Int), 0), some (.int (y : Int), 0)] ∧ Nat.gcd x y = Int.gcd a b ∧ m = y) _ ⟨_, _, rfl, rfl, rfl⟩ hf ?_
  rintro m ρ ⟨x, y, rfl, hg, rfl⟩
  by_cases hy : m = 0
  · subst hy
    have : ((((0 : Nat) : Int)) != 0) = false := by simp
    simp only [W_seq, W_skip, W_asg, W_asgT, W_asgN, W_expr, W_ret, W_retn, W_brk, W_cnt, W_if, W_setix, W_par, W_ok, W_bind, kq_nx, kq_rt, kq_bk, kq_ct, iW_t, iW_f, wK_nx, wK_ct, wK_bk, wK_rt, wT_t, wT_f, fK_nx, fK_ct, fK_bk, fK_rt, fT_nm, tW, setT, setT.go, setT.go1, setixQ, parQ, setAll, szl0, szl1, szl2, szl3, szl4, szl5, szl6, szl7, szl8, szl9, szl10, szl11, szl12, szl13, szl14, Option.isSome_some, Option.isNone_none, List.getElem?_cons_zero, List.getElem?_cons_succ, Option.getD_some, ev, evA, evT, evO, gt, st, bind_ok, of_some, valsA, Option.map_some, demL, List.map_cons, List.map_nil, resolveA, List.all_nil, List.all_cons, if_true, Bool.false_eq_true, if_false, selL0, backsTo, op2_add, op2_sub, op2_mul, op2_mod, op2_fdiv, op2_and, addD_i, subD_i, fr_i, fr_b, fr_t, fr_l, fr_s, fr_n, hasd_0, hasd_i, Bool.and_self, Bool.and_true, nofz_i, nofz_b, intB_i, lenB_l, lenB_t, listB_t, tupB_l, maxB_i, cmp_lt, cmp_gt, cmp_ge, cmp_le, cmp_eq, cmp_ne, truthD_b, Option.isNone_some, List.length_map, truthI, this]
    rw [← hg, Nat.gcd_zero_right]
  · have h1 : (((m : Int)) != 0) = true := by simpa using hy
    have h2 : (0 : Int) < (m : Int) := by omega
    simp only [W_seq, W_skip, W_asg, W_asgT, W_asgN, W_expr, W_ret, W_retn, W_brk, W_cnt, W_if, W_setix, W_par, W_ok, W_bind, kq_nx, kq_rt, kq_bk, kq_ct, iW_t, iW_f, wK_nx, wK_ct, wK_bk, wK_rt, wT_t, wT_f, fK_nx, fK_ct, fK_bk, fK_rt, fT_nm, tW, setT, setT.go, setT.go1, setixQ, parQ, setAll, szl0, szl1, szl2, szl3, szl4, szl5, szl6, szl7, szl8, szl9, szl10, szl11, szl12, szl13, szl14, Option.isSome_some, Option.isNone_none, List.getElem?_cons_zero, List.getElem?_cons_succ, Option.getD_some, ev, evA, evT, evO, gt, st, bind_ok, of_some, valsA, Option.map_some, demL, List.map_cons, List.map_nil, resolveA, List.all_nil, List.all_cons, if_true, Bool.false_eq_true, if_false, selL0, backsTo, op2_add, op2_sub, op2_mul, op2_mod, op2_fdiv, op2_and, addD_i, subD_i, fr_i, fr_b, fr_t, fr_l, fr_s, fr_n, hasd_0, hasd_i, Bool.and_self, Bool.and_true, nofz_i, nofz_b, intB_i, lenB_l, lenB_t, listB_t, tupB_l, maxB_i, cmp_lt, cmp_gt, cmp_ge, cmp_le, cmp_eq, cmp_ne, truthD_b, Option.isNone_some, List.length_map, truthI, h1, modD_i h2]
    exact ⟨x % m, Nat.mod_lt _ (by omega), m, x % m, by rw [Int.natCast_emod], by rw [gcd_step hy, hg], rfl⟩
theorem gcd_run {fuel k : Nat} {a b : Int} (hf : b.natAbs < fuel) : callN defs con fuel (k + 1) "common_divisor" [(.int a, 0), (.int b, 0)] = .ok (.int (Int.gcd a b : Int), 0) [none, none] := by
  obtain ⟨v, outs, h, e1, e2⟩ := callN_W (R := fun v outs => v = (.int (Int.gcd a b : Int), 0) ∧ outs = [none, none]) (fuel := fuel) (k := k) (con := con) (args := [(.int a, 0), (.int b, 0)]) lk_gcd rfl rfl
    (W_imp (gcd_body (cf := ⟨callN defs con fuel k, con, fuel⟩) hf) (by
      rintro fl ρ rfl
      exact ⟨rfl, rfl⟩))
  subst e1 e2
  exact h
theorem lk_lgcd : defs.lookup ("_law_gcd" : Str) = some d__law_gcd := by rfl
theorem lgcd_body {cf : Cf} {a b : Int} (hf : b.natAbs < cf.fuel) : (exec cf d__law_gcd.body [some (.int a, 0), some (.int b, 0)]).W fun fl ρ => fl = .rt (.int (Int.gcd a b : Int), 0) := by
  unfold d__law_gcd
  simp only [W_seq, W_skip, W_asg, W_asgT, W_asgN, W_expr, W_ret, W_retn, W_brk, W_cnt, W_if, W_setix, W_par, W_ok, W_bind, kq_nx, kq_rt, kq_bk, kq_ct, iW_t, iW_f, wK_nx, wK_ct, wK_bk, wK_rt, wT_t, wT_f, fK_nx, fK_ct, fK_bk, fK_rt, fT_nm, tW, setT, setT.go, setT.go1, setixQ, parQ, setAll, szl0, szl1, szl2, szl3, szl4, szl5, szl6, szl7, szl8, szl9, szl10, szl11, szl12, szl13, szl14, Option.isSome_some, Option.isNone_none, List.getElem?_cons_zero, List.getElem?_cons_succ, Option.getD_some, ev, evA, evT, evO, gt, st, bind_ok, of_some, valsA, Option.map_some, demL, List.map_cons, List.map_nil, resolveA, List.all_nil, List.all_cons, if_true, Bool.false_eq_true, if_false, selL0, backsTo, op2_add, op2_sub, op2_mul, op2_mod, op2_fdiv, op2_and, addD_i, subD_i, fr_i, fr_b, fr_t, fr_l, fr_s, fr_n, hasd_0, hasd_i, Bool.and_self, Bool.and_true, nofz_i, nofz_b, intB_i, lenB_l, lenB_t, listB_t, tupB_l, maxB_i, cmp_lt, cmp_gt, cmp_ge, cmp_le, cmp_eq, cmp_ne, truthD_b, Option.isNone_some, List.length_map, abs_i]
  refine W_whl (fun m ρ => ∃ x y : Nat, ρ = [some (.int (x : Int), 0), some (.int (y : Int), 0)] ∧ Nat.gcd x y = Int.gcd a b ∧ m = y) _ ⟨_, _, rfl, rfl, rfl⟩ hf ?_
  rintro m ρ ⟨x, y, rfl, hg, rfl⟩
  by_cases hy : m = 0
  · subst hy
    have : decide ((0 : Int) < ((0 : Nat) : Int)) = false := by decide
    simp only [W_seq, W_skip, W_asg, W_asgT, W_asgN, W_expr, W_ret, W_retn, W_brk, W_cnt, W_if, W_setix, W_par, W_ok, W_bind, kq_nx, kq_rt, kq_bk, kq_ct, iW_t, iW_f, wK_nx, wK_ct, wK_bk, wK_rt, wT_t, wT_f, fK_nx, fK_ct, fK_bk, fK_rt, fT_nm, tW, setT, setT.go, setT.go1, setixQ, parQ, setAll, szl0, szl1, szl2, szl3, szl4, szl5, szl6, szl7, szl8, szl9, szl10, szl11, szl12, szl13, szl14, Option.isSome_some, Option.isNone_none, List.getElem?_cons_zero, List.getElem?_cons_succ, Option.getD_some, ev, evA, evT, evO, gt, st, bind_ok, of_some, valsA, Option.map_some, demL, List.map_cons, List.map_nil, resolveA, List.all_nil, List.all_cons, if_true, Bool.false_eq_true, if_false, selL0, backsTo, op2_add, op2_sub, op2_mul, op2_mod, op2_fdiv, op2_and, addD_i, subD_i, fr_i, fr_b, fr_t, fr_l, fr_s, fr_n, hasd_0, hasd_i, Bool.and_self, Bool.and_true, nofz_i, nofz_b, intB_i, lenB_l, lenB_t, listB_t, tupB_l, maxB_i, cmp_lt, cmp_gt, cmp_ge, cmp_le, cmp_eq, cmp_ne, truthD_b, Option.isNone_some, List.length_map, this]
    rw [← hg, Nat.gcd_zero_right]
  · have h2 : (0 : Int) < (m : Int) := by omega
    simp only [W_seq, W_skip, W_asg, W_asgT, W_asgN, W_expr, W_ret, W_retn, W_brk, W_cnt, W_if, W_setix, W_par, W_ok, W_bind, kq_nx, kq_rt, kq_bk, kq_ct, iW_t, iW_f, wK_nx, wK_ct, wK_bk, wK_rt, wT_t, wT_f, fK_nx, fK_ct, fK_bk, fK_rt, fT_nm, tW, setT, setT.go, setT.go1, setixQ, parQ, setAll, szl0, szl1, szl2, szl3, szl4, szl5, szl6, szl7, szl8, szl9, szl10, szl11, szl12, szl13, szl14, Option.isSome_some, Option.isNone_none, List.getElem?_cons_zero, List.getElem?_cons_succ, Option.getD_some, ev, evA, evT, evO, gt, st, bind_ok, of_some, valsA, Option.map_some, demL, List.map_cons, List.map_nil, resolveA, List.all_nil, List.all_cons, if_true, Bool.false_eq_true, if_false, selL0, backsTo, op2_add, op2_sub, op2_mul, op2_mod, op2_fdiv, op2_and, addD_i, subD_i, fr_i, fr_b, fr_t, fr_l, fr_s, fr_n, hasd_0, hasd_i, Bool.and_self, Bool.and_true, nofz_i, nofz_b, intB_i, lenB_l, lenB_t, listB_t, tupB_l, maxB_i, cmp_lt, cmp_gt, cmp_ge, cmp_le, cmp_eq, cmp_ne, truthD_b, Option.isNone_some, List.length_map, decide_eq_true h2, modD_i h2]
    exact ⟨x % m, Nat.mod_lt _ (by omega), m, x % m, by rw [Int.natCast_emod], by rw [gcd_step hy, hg], rfl⟩
theorem lgcd_run {fuel k : Nat} {a b : Int} (hf : b.natAbs < fuel) : callN defs con fuel (k + 1) "_law_gcd" [(.int a, 0), (.int b, 0)] = .ok (.int (Int.gcd a b : Int), 0) [none, none] := by
  obtain ⟨v, outs, h, e1, e2⟩ := callN_W (R := fun v outs => v = (.int (Int.gcd a b : Int), 0) ∧ outs = [none, none]) (fuel := fuel) (k := k) (con := con) (args := [(.int a, 0), (.int b, 0)]) lk_lgcd rfl rfl
    (W_imp (lgcd_body (cf := ⟨callN defs con fuel k, con, fuel⟩) hf) (by
      rintro fl ρ rfl
      exact ⟨rfl, rfl⟩))
  subst e1 e2
  exact h
end Pi.K37
/-! K37d: discriminants, forms, matrices: checks, leading -/
namespace Pi.K37
open PySem L2 Pi.Fm
theorem lk_isdisc : defs.lookup ("is_discriminant" : Str) = some d_is_discriminant := by rfl
theorem isdisc_run {fuel k : Nat} {i : Int} (h1 : -20000 ≤ i) (h2 : i ≤ -3) (h3 : i % 4 = 0 ∨ i % 4 = 1) : callN defs con fuel (k + 2) "is_discriminant" [(.int i, 0)] = .ok (.bl true, 0) [none] := by
  have hc := isint_run (fuel := fuel) (k := k) (i := i)
  have key : ∃ ρ, exec ⟨callN defs con fuel (k + 1), con, fuel⟩ d_is_discriminant.body [some (.int i, 0)] = .ok (.rt (.bl true, 0)) ρ := by
    generalize callN defs con fuel (k + 1) = call at *
    have h4 : (i % 4 == 0 || i % 4 == 1) = true := by rcases h3 with h | h <;> simp [h]
    refine ⟨_, exec_ret (ρ1 := [some (.int i, 0)]) ?_⟩
    simp only [exec, ev, evA, evT, evO, gt, st, bind_ok, of_some, valsA, Option.map_some, demL, List.map_cons, List.map_nil, resolveA, List.all_nil, List.all_cons, if_true, Bool.false_eq_true, if_false, selL0, backsTo, op2_add, op2_sub, op2_mul, op2_mod, op2_fdiv, op2_and, addD_i, subD_i, fr_i, fr_b, fr_t, fr_l, fr_s, fr_n, hasd_0, hasd_i, Bool.and_self, Bool.and_true, nofz_i, nofz_b, intB_i, lenB_l, lenB_t, listB_t, tupB_l, maxB_i, cmp_lt, cmp_gt, cmp_ge, cmp_le, cmp_eq, cmp_ne, truthD_b, Option.isNone_some, List.length_map, hc, con0, List.getElem?_cons_zero, neg_i, decide_eq_true h1, decide_eq_true h2, modD_i (show (0 : Int) < 4 by decide), in01, h4, szl2]
  obtain ⟨ρ, h⟩ := key
  exact callN_ok (df := d_is_discriminant) (args := [(.int i, 0)]) (ρ0 := [some (.int i, 0)]) lk_isdisc rfl rfl h
def fD (a b c : Int) : D := .tup [.int a, .int b, .int c]
def mD (g h i j : Int) : D := .tup [.int g, .int h, .int i, .int j]
/-- a form with its sizes -/
structure Fs (a b c : Int) : Prop extends Fo a b c where
  sa : Sz 190 a
  sb : Sz 190 b
  sc : Sz 190 c
theorem lt_fuel {x : Int} (h : Sz 195 x) : x.natAbs < Fu := Nat.lt_trans h (by unfold Fu; decide)
theorem lk_form : defs.lookup ("is_form" : Str) = some d_is_form := by rfl
theorem form_body {cf : Cf} {a b c : Int} (f : Fs a b c) (h1 : cf.call "are_integers" [(fD a b c, 0), (.int 3, 0)] = .ok (.bl true, 0) [none, none]) (h2 : cf.call "is_discriminant" [(.int (b * b - 4 * a * c), 0)] = .ok (.bl true, 0) [none])
    (h3 : cf.call "common_divisor" [(.int a, 0), (.int b, 0)] = .ok (.int (Int.gcd a b : Int), 0) [none, none]) (h4 : cf.call "common_divisor" [(.int (Int.gcd a b : Int), 0), (.int c, 0)] = .ok (.int (gc a b c : Int), 0) [none, none]) :
    (exec cf d_is_form.body [some (fD a b c, 0), none, none, none]).W fun fl ρ => fl = .rt (.bl true, 0) := by
  have sa := f.sa.mono (l := 200) (by decide)
  have sb := f.sb.mono (l := 200) (by decide)
  have sc := f.sc.mono (l := 200) (by decide)
  have hp : decide (a ≤ 0) = false := decide_eq_false (by have := f.pos; omega)
  have hg : ((gc a b c : Int) == 1) = true := by rw [f.pr]; rfl
  unfold d_is_form
  simp only [W_seq, W_skip, W_asg, W_asgT, W_asgN, W_expr, W_ret, W_retn, W_brk, W_cnt, W_if, W_setix, W_par, W_ok, W_bind, kq_nx, kq_rt, kq_bk, kq_ct, iW_t, iW_f, wK_nx, wK_ct, wK_bk, wK_rt, wT_t, wT_f, fK_nx, fK_ct, fK_bk, fK_rt, fT_nm, tW, setT, setT.go, setT.go1, setixQ, parQ, setAll, szl0, szl1, szl2, szl3, szl4, szl5, szl6, szl7, szl8, szl9, szl10, szl11, szl12, szl13, szl14, Option.isSome_some, Option.isNone_none, List.getElem?_cons_zero, List.getElem?_cons_succ, Option.getD_some, ev, evA, evT, evO, gt, st, bind_ok, of_some, valsA, Option.map_some, demL, List.map_cons, List.map_nil, resolveA, List.all_nil, List.all_cons, if_true, Bool.false_eq_true, if_false, selL0, backsTo, op2_add, op2_sub, op2_mul, op2_mod, op2_fdiv, op2_and, addD_i, subD_i, fr_i, fr_b, fr_t, fr_l, fr_s, fr_n, hasd_0, hasd_i, Bool.and_self, Bool.and_true, nofz_i, nofz_b, intB_i, lenB_l, lenB_t, listB_t, tupB_l, maxB_i, cmp_lt, cmp_gt, cmp_ge, cmp_le, cmp_eq, cmp_ne, truthD_b, Option.isNone_some, List.length_map, fD] at h1 ⊢
  simp only [W_seq, W_skip, W_asg, W_asgT, W_asgN, W_expr, W_ret, W_retn, W_brk, W_cnt, W_if, W_setix, W_par, W_ok, W_bind, kq_nx, kq_rt, kq_bk, kq_ct, iW_t, iW_f, wK_nx, wK_ct, wK_bk, wK_rt, wT_t, wT_f, fK_nx, fK_ct, fK_bk, fK_rt, fT_nm, tW, setT, setT.go, setT.go1, setixQ, parQ, setAll, szl0, szl1, szl2, szl3, szl4, szl5, szl6, szl7, szl8, szl9, szl10, szl11, szl12, szl13, szl14, Option.isSome_some, Option.isNone_none, List.getElem?_cons_zero, List.getElem?_cons_succ, Option.getD_some, ev, evA, evT, evO, gt, st, bind_ok, of_some, valsA, Option.map_some, demL, List.map_cons, List.map_nil, resolveA, List.all_nil, List.all_cons, if_true, Bool.false_eq_true, if_false, selL0, backsTo, op2_add, op2_sub, op2_mul, op2_mod, op2_fdiv, op2_and, addD_i, subD_i, fr_i, fr_b, fr_t, fr_l, fr_s, fr_n, hasd_0, hasd_i, Bool.and_self, Bool.and_true, nofz_i, nofz_b, intB_i, lenB_l, lenB_t, listB_t, tupB_l, maxB_i, cmp_lt, cmp_gt, cmp_ge, cmp_le, cmp_eq, cmp_ne, truthD_b, Option.isNone_some, List.length_map, h1, Bool.not_true, hp, mulD_i (mk2 sb sb), mulD_i (mk4l sa), mulD_i (mk34 sa sc), h2, h3, h4, hg]
theorem form_run {fuel k : Nat} {a b c : Int} (f : Fs a b c) : callN defs con Fu (k + 3) "is_form" [(fD a b c, 0)] = .ok (.bl true, 0) [none] := by
  obtain ⟨v, outs, h, e1, e2⟩ := callN_W (R := fun v outs => v = (.bl true, 0) ∧ outs = [none]) (fuel := Fu) (k := k + 2) (con := con) (args := [(fD a b c, 0)]) lk_form rfl rfl
    (W_imp (form_body f (areint_run (l := [a, b, c]) rfl (by decide)) (isdisc_run f.lo f.hi (disc_mod a b c)) (gcd_run (lt_fuel (f.sb.mono (by decide)))) (gcd_run (lt_fuel (f.sc.mono (by decide))))) (by
      rintro fl ρ rfl
      exact ⟨rfl, rfl⟩))
  subst e1 e2
  exact h
theorem lk_discat : defs.lookup ("discriminant_at" : Str) = some d_discriminant_at := by rfl
theorem discat_run {fuel k : Nat} {a b c : Int} (f : Fs a b c) : callN defs con Fu (k + 1) "discriminant_at" [(fD a b c, 0)] = .ok (.int (b * b - 4 * a * c), 0) [none] := by
  have sa := f.sa.mono (l := 200) (by decide)
  have sb := f.sb.mono (l := 200) (by decide)
  have sc := f.sc.mono (l := 200) (by decide)
  obtain ⟨v, outs, h, e1, e2⟩ := callN_W (R := fun v outs => v = (.int (b * b - 4 * a * c), 0) ∧ outs = [none]) (fuel := Fu) (k := k) (con := con) (args := [(fD a b c, 0)]) (ρ0 := [some (fD a b c, 0), none, none, none]) lk_discat rfl rfl
    (by
      unfold d_discriminant_at
      simp only [W_seq, W_skip, W_asg, W_asgT, W_asgN, W_expr, W_ret, W_retn, W_brk, W_cnt, W_if, W_setix, W_par, W_ok, W_bind, kq_nx, kq_rt, kq_bk, kq_ct, iW_t, iW_f, wK_nx, wK_ct, wK_bk, wK_rt, wT_t, wT_f, fK_nx, fK_ct, fK_bk, fK_rt, fT_nm, tW, setT, setT.go, setT.go1, setixQ, parQ, setAll, szl0, szl1, szl2, szl3, szl4, szl5, szl6, szl7, szl8, szl9, szl10, szl11, szl12, szl13, szl14, Option.isSome_some, Option.isNone_none, List.getElem?_cons_zero, List.getElem?_cons_succ, Option.getD_some, ev, evA, evT, evO, gt, st, bind_ok, of_some, valsA, Option.map_some, demL, List.map_cons, List.map_nil, resolveA, List.all_nil, List.all_cons, if_true, Bool.false_eq_true, if_false, selL0, backsTo, op2_add, op2_sub, op2_mul, op2_mod, op2_fdiv, op2_and, addD_i, subD_i, fr_i, fr_b, fr_t, fr_l, fr_s, fr_n, hasd_0, hasd_i, Bool.and_self, Bool.and_true, nofz_i, nofz_b, intB_i, lenB_l, lenB_t, listB_t, tupB_l, maxB_i, cmp_lt, cmp_gt, cmp_ge, cmp_le, cmp_eq, cmp_ne, truthD_b, Option.isNone_some, List.length_map, fD, mulD_i (mk2 sb sb), mulD_i (mk4l sa), mulD_i (mk34 sa sc)]
      exact ⟨trivial, rfl⟩)
  subst e1 e2
  exact h
theorem lk_matrix : defs.lookup ("is_matrix" : Str) = some d_is_matrix := by rfl
/-- a matrix with its sizes -/
structure Ms (n : Nat) (g h i j : Int) : Prop where
  dt : g * j - h * i = 1
  sg : Sz n g
  sh : Sz n h
  si : Sz n i
  sj : Sz n j
theorem Ms.mono {n m : Nat} {g h i j : Int} (x : Ms n g h i j) (hn : n ≤ m) : Ms m g h i j := ⟨x.dt, x.sg.mono hn, x.sh.mono hn, x.si.mono hn, x.sj.mono hn⟩
theorem matrix_run {fuel k : Nat} {g h i j : Int} (m : Ms 200 g h i j) : callN defs con Fu (k + 3) "is_matrix" [(mD g h i j, 0)] = .ok (.bl true, 0) [none] := by
  have hc := areint_run (fuel := Fu) (k := k) (l := [g, h, i, j]) (n := 4) rfl (by decide)
  have key : ∃ ρ, exec ⟨callN defs con Fu (k + 2), con, Fu⟩ d_is_matrix.body [some (mD g h i j, 0)] = .ok (.rt (.bl true, 0)) ρ := by
    generalize callN defs con Fu (k + 2) = call at *
    have hd : (g * j - h * i == 1) = true := by rw [m.dt]; rfl
    refine ⟨_, exec_ret (ρ1 := [some (mD g h i j, 0)]) ?_⟩
    simp only [List.map_cons, List.map_nil] at hc
    have hc' : call "are_integers" [(.tup [.int g, .int h, .int i, .int j], 0), (.int 4, 0)] = .ok (.bl true, 0) [none, none] := hc
    have i0 : ixD (.tup [.int g, .int h, .int i, .int j]) (.int 0) = some (.int g) := ix_n (n := 0) rfl
    have i1 : ixD (.tup [.int g, .int h, .int i, .int j]) (.int 1) = some (.int h) := ix_n (n := 1) rfl
    have i2 : ixD (.tup [.int g, .int h, .int i, .int j]) (.int 2) = some (.int i) := ix_n (n := 2) rfl
    have i3 : ixD (.tup [.int g, .int h, .int i, .int j]) (.int 3) = some (.int j) := ix_n (n := 3) rfl
    simp only [mD, exec, ev, evA, evT, evO, gt, st, bind_ok, of_some, valsA, Option.map_some, demL, List.map_cons, List.map_nil, resolveA, List.all_nil, List.all_cons, if_true, Bool.false_eq_true, if_false, selL0, backsTo, op2_add, op2_sub, op2_mul, op2_mod, op2_fdiv, op2_and, addD_i, subD_i, fr_i, fr_b, fr_t, fr_l, fr_s, fr_n, hasd_0, hasd_i, Bool.and_self, Bool.and_true, nofz_i, nofz_b, intB_i, lenB_l, lenB_t, listB_t, tupB_l, maxB_i, cmp_lt, cmp_gt, cmp_ge, cmp_le, cmp_eq, cmp_ne, truthD_b, Option.isNone_some, List.length_map, hc', i0, i1, i2, i3, mulD_i (mk2 m.sg m.sj), mulD_i (mk2 m.sh m.si), hd]
  obtain ⟨ρ, hk⟩ := key
  exact callN_ok (df := d_is_matrix) (args := [(mD g h i j, 0)]) (ρ0 := [some (mD g h i j, 0)]) lk_matrix rfl rfl hk
theorem lk_lead : defs.lookup ("lead" : Str) = some d_lead := by rfl
def ledD (a b c g h i j : Int) : D := fD (la a b c g i) (lb a b c g h i j) (la a b c h j)
theorem lead_run {fuel k n : Nat} {a b c g h i j : Int} (sa : Sz 200 a) (sb : Sz 200 b) (sc : Sz 200 c) (sg : Sz 200 g) (sh : Sz 200 h) (si : Sz 200 i) (sj : Sz 200 j) : callN defs con fuel (k + 1) "lead" [(fD a b c, 0), (mD g h i j, n)] = .ok (ledD a b c g h i j, 0) [none, none] := by
  obtain ⟨v, outs, h, e1, e2⟩ := callN_W (R := fun v outs => v = (ledD a b c g h i j, 0) ∧ outs = [none, none]) (fuel := fuel) (k := k) (con := con) (args := [(fD a b c, 0), (mD g h i j, n)]) (ρ0 := [some (fD a b c, 0), some (mD g h i j, n), none, none, none, none, none, none, none, none, none, none]) lk_lead rfl rfl
    (by
      unfold d_lead
      simp only [W_seq, W_skip, W_asg, W_asgT, W_asgN, W_expr, W_ret, W_retn, W_brk, W_cnt, W_if, W_setix, W_par, W_ok, W_bind, kq_nx, kq_rt, kq_bk, kq_ct, iW_t, iW_f, wK_nx, wK_ct, wK_bk, wK_rt, wT_t, wT_f, fK_nx, fK_ct, fK_bk, fK_rt, fT_nm, tW, setT, setT.go, setT.go1, setixQ, parQ, setAll, szl0, szl1, szl2, szl3, szl4, szl5, szl6, szl7, szl8, szl9, szl10, szl11, szl12, szl13, szl14, Option.isSome_some, Option.isNone_none, List.getElem?_cons_zero, List.getElem?_cons_succ, Option.getD_some, ev, evA, evT, evO, gt, st, bind_ok, of_some, valsA, Option.map_some, demL, List.map_cons, List.map_nil, resolveA, List.all_nil, List.all_cons, if_true, Bool.false_eq_true, if_false, selL0, backsTo, op2_add, op2_sub, op2_mul, op2_mod, op2_fdiv, op2_and, addD_i, subD_i, fr_i, fr_b, fr_t, fr_l, fr_s, fr_n, hasd_0, hasd_i, Bool.and_self, Bool.and_true, nofz_i, nofz_b, intB_i, lenB_l, lenB_t, listB_t, tupB_l, maxB_i, cmp_lt, cmp_gt, cmp_ge, cmp_le, cmp_eq, cmp_ne, truthD_b, Option.isNone_some, List.length_map, fD, mD, ledD, la, lb, mulD_i (mk2 sa sg), mulD_i (mk3 sa sg sg), mulD_i (mk2 sb sg), mulD_i (mk3 sb sg si), mulD_i (mk2 sc si), mulD_i (mk3 sc si si), mulD_i (mk2l sa), mulD_i (mk3l sa sg), mulD_i (mk5 sa sg sh), mulD_i (mk2 sg sj), mulD_i (mk2 sh si), mulD_i (mk6 sb sg sj sh si), mulD_i (mk2l sc), mulD_i (mk3l sc si), mulD_i (mk5 sc si sj), mulD_i (mk2 sa sh), mulD_i (mk3 sa sh sh), mulD_i (mk2 sb sh), mulD_i (mk3 sb sh sj), mulD_i (mk2 sc sj), mulD_i (mk3 sc sj sj)]
      exact ⟨trivial, rfl⟩)
  subst e1 e2
  exact h
theorem lk_times : defs.lookup ("matrix_times" : Str) = some d_matrix_times := by rfl
def timD (g h i j k m n o : Int) : D := mD (g * k + h * n) (g * m + h * o) (i * k + j * n) (i * m + j * o)
theorem times_run {fuel q p r : Nat} {g h i j k m n o : Int} (sg : Sz 200 g) (sh : Sz 200 h) (si : Sz 200 i) (sj : Sz 200 j) (sk : Sz 200 k) (sm : Sz 200 m) (sn : Sz 200 n) (so : Sz 200 o) : callN defs con fuel (q + 1) "matrix_times" [(mD g h i j, p), (mD k m n o, r)] = .ok (timD g h i j k m n o, 0) [none, none] := by
  obtain ⟨v, outs, h, e1, e2⟩ := callN_W (R := fun v outs => v = (timD g h i j k m n o, 0) ∧ outs = [none, none]) (fuel := fuel) (k := q) (con := con) (args := [(mD g h i j, p), (mD k m n o, r)]) (ρ0 := [some (mD g h i j, p), some (mD k m n o, r), none, none, none, none, none, none, none, none]) lk_times rfl rfl
    (by
      unfold d_matrix_times
      simp only [W_seq, W_skip, W_asg, W_asgT, W_asgN, W_expr, W_ret, W_retn, W_brk, W_cnt, W_if, W_setix, W_par, W_ok, W_bind, kq_nx, kq_rt, kq_bk, kq_ct, iW_t, iW_f, wK_nx, wK_ct, wK_bk, wK_rt, wT_t, wT_f, fK_nx, fK_ct, fK_bk, fK_rt, fT_nm, tW, setT, setT.go, setT.go1, setixQ, parQ, setAll, szl0, szl1, szl2, szl3, szl4, szl5, szl6, szl7, szl8, szl9, szl10, szl11, szl12, szl13, szl14, Option.isSome_some, Option.isNone_none, List.getElem?_cons_zero, List.getElem?_cons_succ, Option.getD_some, ev, evA, evT, evO, gt, st, bind_ok, of_some, valsA, Option.map_some, demL, List.map_cons, List.map_nil, resolveA, List.all_nil, List.all_cons, if_true, Bool.false_eq_true, if_false, selL0, backsTo, op2_add, op2_sub, op2_mul, op2_mod, op2_fdiv, op2_and, addD_i, subD_i, fr_i, fr_b, fr_t, fr_l, fr_s, fr_n, hasd_0, hasd_i, Bool.and_self, Bool.and_true, nofz_i, nofz_b, intB_i, lenB_l, lenB_t, listB_t, tupB_l, maxB_i, cmp_lt, cmp_gt, cmp_ge, cmp_le, cmp_eq, cmp_ne, truthD_b, Option.isNone_some, List.length_map, mD, timD, mulD_i (mk2 sg sk), mulD_i (mk2 sh sn), mulD_i (mk2 sg sm), mulD_i (mk2 sh so), mulD_i (mk2 si sk), mulD_i (mk2 sj sn), mulD_i (mk2 si sm), mulD_i (mk2 sj so)]
      exact ⟨trivial, rfl⟩)
  subst e1 e2
  exact h
end Pi.K37
/-! K37e: the reduction -/
namespace Pi.K37
open PySem L2 Pi.Fm
theorem divOk_sz {j : Int} (h0 : 0 < j) (h : Sz 8000 j) : divOk j = true := by
  have := h.log
  simp only [divOk, Bool.and_eq_true, Bool.or_eq_true, decide_eq_true_eq]
  exact ⟨h0, .inr (by omega)⟩
def BB : Int := 2 ^ 190 - 1
theorem sz_bb {x : Int} (h1 : -BB ≤ x) (h2 : x ≤ BB) : Sz 190 x := by
  unfold Sz
  unfold BB at *
  omega
theorem bb_sz {x : Int} (h : Sz 190 x) : -BB ≤ x ∧ x ≤ BB := by
  unfold Sz at h
  unfold BB
  omega
theorem sz_col {x : Int} (h : x * x ≤ 4 * BB * BB) : Sz 192 x := by
  have := col_abs (B := BB) (by unfold BB; decide) h
  unfold Sz
  have e : BB.natAbs = 2 ^ 190 - 1 := by unfold BB; decide
  rw [e] at this
  omega
theorem lk_red : defs.lookup ("reduction" : Str) = some d_reduction := by rfl
/-- what the loop keeps -/
structure RI (a b c g h i j : Int) : Prop where
  dt : g * j - h * i = 1
  bd : Bd BB (la a b c g i) (lb a b c g h i j) (la a b c h j)
theorem RI.fs {a b c g h i j : Int} (f : Fs a b c) (r : RI a b c g h i j) : Fs (la a b c g i) (lb a b c g h i j) (la a b c h j) := by
  have F := f.toFo.led r.dt
  have h1 := F.pos
  have h2 := F.c_pos
  have B := r.bd
  have p1 := B.a
  have p2 := B.b1
  have p3 := B.b2
  have p4 := B.c
  exact ⟨F, sz_bb (by unfold BB at *; omega) p1, sz_bb p2 p3, sz_bb (by unfold BB at *; omega) p4⟩
theorem RI.ms {a b c g h i j : Int} (f : Fs a b c) (r : RI a b c g h i j) : Ms 192 g h i j := by
  have F := f.toFo.led r.dt
  have h1 := F.pos
  have h2 := F.c_pos
  have hD : b * b - 4 * a * c ≤ -1 := by have := f.hi; omega
  have B := r.bd
  have c1 := col_sz f.pos f.toFo.c_pos hD (bb_sz f.sa).2 (bb_sz f.sc).2 B.a (by omega)
  have c2 := col_sz f.pos f.toFo.c_pos hD (bb_sz f.sa).2 (bb_sz f.sc).2 B.c (by omega)
  exact ⟨r.dt, sz_col c1.1, sz_col c2.1, sz_col c1.2, sz_col c2.2⟩
/-- a step by a matrix -/
theorem RI.step {a b c g h i j k m n o : Int} (r : RI a b c g h i j) (hd : k * o - m * n = 1) (hb : Bd BB (la (la a b c g i) (lb a b c g h i j) (la a b c h j) k n) (lb (la a b c g i) (lb a b c g h i j) (la a b c h j) k m n o) (la (la a b c g i) (lb a b c g h i j) (la a b c h j) m o)) :
    RI a b c (g * k + h * n) (g * m + h * o) (i * k + j * n) (i * m + j * o) := by
  refine ⟨det_mul r.dt hd, ?_⟩
  rw [la_mul, lb_mul, la_mul] at hb
  exact hb
theorem step_led {a b c g h i j k m n o : Int} : ledD (la a b c g i) (lb a b c g h i j) (la a b c h j) k m n o = ledD a b c (g * k + h * n) (g * m + h * o) (i * k + j * n) (i * m + j * o) := by
  unfold ledD
  rw [la_mul, lb_mul, la_mul]
def redI (a b c : Int) (m : Nat) (ρ : Env) : Prop := ∃ g h i j x2 x3 x4 x5 x6, ρ = [some (ledD a b c g h i j, 0), some (mD g h i j, 0), x2, x3, x4, x5, x6] ∧ RI a b c g h i j ∧ m = mu (la a b c g i) (lb a b c g h i j) (la a b c h j)
theorem m1 {cf : Cf} {ρ : Env} : ev cf (.tup 0 (.cons (.int 0) (.cons (.neg (.int 1)) (.cons (.int 1) (.cons (.int 0) .nil))))) ρ = .ok (mD 0 (-1) 1 0, 0) ρ := by
  simp only [exec, ev, evA, evT, evO, gt, st, bind_ok, of_some, valsA, Option.map_some, demL, List.map_cons, List.map_nil, resolveA, List.all_nil, List.all_cons, if_true, Bool.false_eq_true, if_false, selL0, backsTo, op2_add, op2_sub, op2_mul, op2_mod, op2_fdiv, op2_and, addD_i, subD_i, fr_i, fr_b, fr_t, fr_l, fr_s, fr_n, hasd_0, hasd_i, Bool.and_self, Bool.and_true, nofz_i, nofz_b, intB_i, lenB_l, lenB_t, listB_t, tupB_l, maxB_i, cmp_lt, cmp_gt, cmp_ge, cmp_le, cmp_eq, cmp_ne, truthD_b, Option.isNone_some, List.length_map, neg_i, szl4, mD]
theorem red_body {cf : Cf} {a b c : Int} (f : Fs a b c) (hf : cf.fuel = Fu) (hl : ∀ a b c g h i j : Int, Sz 200 a → Sz 200 b → Sz 200 c → Sz 200 g → Sz 200 h → Sz 200 i → Sz 200 j → cf.call "lead" [(fD a b c, 0), (mD g h i j, 0)] = .ok (ledD a b c g h i j, 0) [none, none])
    (ht : ∀ g h i j k m n o : Int, Sz 200 g → Sz 200 h → Sz 200 i → Sz 200 j → Sz 200 k → Sz 200 m → Sz 200 n → Sz 200 o → cf.call "matrix_times" [(mD g h i j, 0), (mD k m n o, 0)] = .ok (timD g h i j k m n o, 0) [none, none]) :
    (exec cf d_reduction.body [some (fD a b c, 0), none, none, none, none, none, none]).W fun fl ρ => ∃ g h i j, fl = .rt (.tup [ledD a b c g h i j, mD g h i j], 0) ∧ RI a b c g h i j ∧ Red (la a b c g i) (lb a b c g h i j) (la a b c h j) := by
  unfold d_reduction
  have z0 : Sz 200 0 := by unfold Sz; decide
  have z1 : Sz 200 1 := by unfold Sz; decide
  have zm : Sz 200 (-1) := by unfold Sz; decide
  have e1 : la a b c 1 0 = a := la_10
  have e2 : lb a b c 1 0 0 1 = b := by unfold lb; grind
  have e3 : la a b c 0 1 = c := la_01
  simp only [W_seq, W_skip, W_asg, W_asgT, W_asgN, W_expr, W_ret, W_retn, W_brk, W_cnt, W_if, W_setix, W_par, W_ok, W_bind, kq_nx, kq_rt, kq_bk, kq_ct, iW_t, iW_f, wK_nx, wK_ct, wK_bk, wK_rt, wT_t, wT_f, fK_nx, fK_ct, fK_bk, fK_rt, fT_nm, tW, setT, setT.go, setT.go1, setixQ, parQ, setAll, szl0, szl1, szl2, szl3, szl4, szl5, szl6, szl7, szl8, szl9, szl10, szl11, szl12, szl13, szl14, Option.isSome_some, Option.isNone_none, List.getElem?_cons_zero, List.getElem?_cons_succ, Option.getD_some, ev, evA, evT, evO, gt, st, bind_ok, of_some, valsA, Option.map_some, demL, List.map_cons, List.map_nil, resolveA, List.all_nil, List.all_cons, if_true, Bool.false_eq_true, if_false, selL0, backsTo, op2_add, op2_sub, op2_mul, op2_mod, op2_fdiv, op2_and, addD_i, subD_i, fr_i, fr_b, fr_t, fr_l, fr_s, fr_n, hasd_0, hasd_i, Bool.and_self, Bool.and_true, nofz_i, nofz_b, intB_i, lenB_l, lenB_t, listB_t, tupB_l, maxB_i, cmp_lt, cmp_gt, cmp_ge, cmp_le, cmp_eq, cmp_ne, truthD_b, Option.isNone_some, List.length_map]
  refine W_whl (redI a b c) _ ⟨1, 0, 0, 1, none, none, none, none, none, by rw [ledD, e1, e2, e3, mD], ⟨by decide, ?_⟩, rfl⟩ ?_ ?_
  · rw [e1, e2, e3]
    exact ⟨(bb_sz f.sa).2, (bb_sz f.sb).1, (bb_sz f.sb).2, (bb_sz f.sc).2⟩
  · rw [hf, e1, e2, e3]
    have := mu_le (a := a) (b := b) (c := c)
    have h2 := (bb_sz f.sa).2
    unfold BB at h2
    unfold Fu
    omega
  · rintro m ρ ⟨g, h, i, j, x2, x3, x4, x5, x6, rfl, r, rfl⟩
    have F := r.fs f
    have M := (r.ms f).mono (m := 200) (by decide)
    have sA := F.sa.mono (l := 200) (by decide)
    have sB := F.sb.mono (l := 200) (by decide)
    have sC := F.sc.mono (l := 200) (by decide)
    have hD : lb a b c g h i j * lb a b c g h i j - 4 * la a b c g i * la a b c h j < 0 := by have := F.hi; omega
    have key : ∀ k m n o : Int, la (la a b c g i) (lb a b c g h i j) (la a b c h j) k n = la a b c (g * k + h * n) (i * k + j * n) := fun k m n o => la_mul
    have st1 := fun k m n o : Int => step_led (a := a) (b := b) (c := c) (g := g) (h := h) (i := i) (j := j) (k := k) (m := m) (n := n) (o := o)
    have rs := fun k m n o : Int => r.step (k := k) (m := m) (n := n) (o := o)
    have lm := fun k n : Int => la_mul (a := a) (b := b) (c := c) (g := g) (h := h) (i := i) (j := j) (k := k) (m := n)
    have lm2 := fun k m n o : Int => lb_mul (a := a) (b := b) (c := c) (g := g) (h := h) (i := i) (j := j) (k := k) (m := m) (n := n) (o := o)
    have e0 : ledD a b c g h i j = fD (la a b c g i) (lb a b c g h i j) (la a b c h j) := rfl
    rw [e0]
    generalize hA : la a b c g i = A at *
    generalize hB : lb a b c g h i j = B at *
    generalize hC : la a b c h j = C at *
    have hp := F.pos
    have hcp := F.toFo.c_pos
    have s2 : Sz 8000 (2 * A) := (sz2.mul sA).mono (by decide)
    have dv : divOk (2 * A) = true := divOk_sz (by omega) s2
    simp only [fD, W_seq, W_skip, W_asg, W_asgT, W_asgN, W_expr, W_ret, W_retn, W_brk, W_cnt, W_if, W_setix, W_par, W_ok, W_bind, kq_nx, kq_rt, kq_bk, kq_ct, iW_t, iW_f, wK_nx, wK_ct, wK_bk, wK_rt, wT_t, wT_f, fK_nx, fK_ct, fK_bk, fK_rt, fT_nm, tW, setT, setT.go, setT.go1, setixQ, parQ, setAll, szl0, szl1, szl2, szl3, szl4, szl5, szl6, szl7, szl8, szl9, szl10, szl11, szl12, szl13, szl14, Option.isSome_some, Option.isNone_none, List.getElem?_cons_zero, List.getElem?_cons_succ, Option.getD_some, ev, evA, evT, evO, gt, st, bind_ok, of_some, valsA, Option.map_some, demL, List.map_cons, List.map_nil, resolveA, List.all_nil, List.all_cons, if_true, Bool.false_eq_true, if_false, selL0, backsTo, op2_add, op2_sub, op2_mul, op2_mod, op2_fdiv, op2_and, addD_i, subD_i, fr_i, fr_b, fr_t, fr_l, fr_s, fr_n, hasd_0, hasd_i, Bool.and_self, Bool.and_true, nofz_i, nofz_b, intB_i, lenB_l, lenB_t, listB_t, tupB_l, maxB_i, cmp_lt, cmp_gt, cmp_ge, cmp_le, cmp_eq, cmp_ne, truthD_b, Option.isNone_some, List.length_map, mulD_i (mk2l sA), fdivD_i dv, truthI]
    rw [show (A - B) / (2 * A) = sh A B from rfl]
    by_cases hs : sh A B = 0
    · have b0 : (sh A B != 0) = false := by simp [hs]
      have hrng := sh_ne hp hs
      simp only [b0, W_seq, W_skip, W_asg, W_asgT, W_asgN, W_expr, W_ret, W_retn, W_brk, W_cnt, W_if, W_setix, W_par, W_ok, W_bind, kq_nx, kq_rt, kq_bk, kq_ct, iW_t, iW_f, wK_nx, wK_ct, wK_bk, wK_rt, wT_t, wT_f, fK_nx, fK_ct, fK_bk, fK_rt, fT_nm, tW, setT, setT.go, setT.go1, setixQ, parQ, setAll, szl0, szl1, szl2, szl3, szl4, szl5, szl6, szl7, szl8, szl9, szl10, szl11, szl12, szl13, szl14, Option.isSome_some, Option.isNone_none, List.getElem?_cons_zero, List.getElem?_cons_succ, Option.getD_some, ev, evA, evT, evO, gt, st, bind_ok, of_some, valsA, Option.map_some, demL, List.map_cons, List.map_nil, resolveA, List.all_nil, List.all_cons, if_true, Bool.false_eq_true, if_false, selL0, backsTo, op2_add, op2_sub, op2_mul, op2_mod, op2_fdiv, op2_and, addD_i, subD_i, fr_i, fr_b, fr_t, fr_l, fr_s, fr_n, hasd_0, hasd_i, Bool.and_self, Bool.and_true, nofz_i, nofz_b, intB_i, lenB_l, lenB_t, listB_t, tupB_l, maxB_i, cmp_lt, cmp_gt, cmp_ge, cmp_le, cmp_eq, cmp_ne, truthD_b, Option.isNone_some, List.length_map]
      by_cases hac : C < A
      · have g1 := hl A B C 0 (-1) 1 0 sA sB sC z0 zm z1 z0
        have g2 := ht g h i j 0 (-1) 1 0 M.sg M.sh M.si M.sj z0 zm z1 z0
        simp only [fD, mD] at g1
        simp only [mD] at g2
        simp only [mD, decide_eq_true hac, W_seq, W_skip, W_asg, W_asgT, W_asgN, W_expr, W_ret, W_retn, W_brk, W_cnt, W_if, W_setix, W_par, W_ok, W_bind, kq_nx, kq_rt, kq_bk, kq_ct, iW_t, iW_f, wK_nx, wK_ct, wK_bk, wK_rt, wT_t, wT_f, fK_nx, fK_ct, fK_bk, fK_rt, fT_nm, tW, setT, setT.go, setT.go1, setixQ, parQ, setAll, szl0, szl1, szl2, szl3, szl4, szl5, szl6, szl7, szl8, szl9, szl10, szl11, szl12, szl13, szl14, Option.isSome_some, Option.isNone_none, List.getElem?_cons_zero, List.getElem?_cons_succ, Option.getD_some, ev, evA, evT, evO, gt, st, bind_ok, of_some, valsA, Option.map_some, demL, List.map_cons, List.map_nil, resolveA, List.all_nil, List.all_cons, if_true, Bool.false_eq_true, if_false, selL0, backsTo, op2_add, op2_sub, op2_mul, op2_mod, op2_fdiv, op2_and, addD_i, subD_i, fr_i, fr_b, fr_t, fr_l, fr_s, fr_n, hasd_0, hasd_i, Bool.and_self, Bool.and_true, nofz_i, nofz_b, intB_i, lenB_l, lenB_t, listB_t, tupB_l, maxB_i, cmp_lt, cmp_gt, cmp_ge, cmp_le, cmp_eq, cmp_ne, truthD_b, Option.isNone_some, List.length_map, neg_i, g1, g2, st1]
        refine ⟨_, swap_step hcp hac, _, _, _, _, _, _, _, _, _, rfl, rs 0 (-1) 1 0 (by decide) ?_, ?_⟩
        · rw [la_01, lb_sw, la_m0]
          have := r.bd
          rw [hA, hB, hC] at this
          exact ⟨this.c, by have := this.b2; omega, by have := this.b1; omega, this.a⟩
        · rw [← lm, ← lm2, ← lm, la_01, lb_sw, la_m0]
      · simp only [decide_eq_false hac, W_seq, W_skip, W_asg, W_asgT, W_asgN, W_expr, W_ret, W_retn, W_brk, W_cnt, W_if, W_setix, W_par, W_ok, W_bind, kq_nx, kq_rt, kq_bk, kq_ct, iW_t, iW_f, wK_nx, wK_ct, wK_bk, wK_rt, wT_t, wT_f, fK_nx, fK_ct, fK_bk, fK_rt, fT_nm, tW, setT, setT.go, setT.go1, setixQ, parQ, setAll, szl0, szl1, szl2, szl3, szl4, szl5, szl6, szl7, szl8, szl9, szl10, szl11, szl12, szl13, szl14, Option.isSome_some, Option.isNone_none, List.getElem?_cons_zero, List.getElem?_cons_succ, Option.getD_some, ev, evA, evT, evO, gt, st, bind_ok, of_some, valsA, Option.map_some, demL, List.map_cons, List.map_nil, resolveA, List.all_nil, List.all_cons, if_true, Bool.false_eq_true, if_false, selL0, backsTo, op2_add, op2_sub, op2_mul, op2_mod, op2_fdiv, op2_and, addD_i, subD_i, fr_i, fr_b, fr_t, fr_l, fr_s, fr_n, hasd_0, hasd_i, Bool.and_self, Bool.and_true, nofz_i, nofz_b, intB_i, lenB_l, lenB_t, listB_t, tupB_l, maxB_i, cmp_lt, cmp_gt, cmp_ge, cmp_le, cmp_eq, cmp_ne, truthD_b, Option.isNone_some, List.length_map]
        by_cases heq : A = C
        · by_cases hb : B < 0
          · have g1 := hl A B C 0 (-1) 1 0 sA sB sC z0 zm z1 z0
            have g2 := ht g h i j 0 (-1) 1 0 M.sg M.sh M.si M.sj z0 zm z1 z0
            simp only [fD, mD] at g1
            simp only [mD] at g2
            have hq : (A == C) = true := by simpa using heq
            simp only [mD, hq, decide_eq_true hb, W_seq, W_skip, W_asg, W_asgT, W_asgN, W_expr, W_ret, W_retn, W_brk, W_cnt, W_if, W_setix, W_par, W_ok, W_bind, kq_nx, kq_rt, kq_bk, kq_ct, iW_t, iW_f, wK_nx, wK_ct, wK_bk, wK_rt, wT_t, wT_f, fK_nx, fK_ct, fK_bk, fK_rt, fT_nm, tW, setT, setT.go, setT.go1, setixQ, parQ, setAll, szl0, szl1, szl2, szl3, szl4, szl5, szl6, szl7, szl8, szl9, szl10, szl11, szl12, szl13, szl14, Option.isSome_some, Option.isNone_none, List.getElem?_cons_zero, List.getElem?_cons_succ, Option.getD_some, ev, evA, evT, evO, gt, st, bind_ok, of_some, valsA, Option.map_some, demL, List.map_cons, List.map_nil, resolveA, List.all_nil, List.all_cons, if_true, Bool.false_eq_true, if_false, selL0, backsTo, op2_add, op2_sub, op2_mul, op2_mod, op2_fdiv, op2_and, addD_i, subD_i, fr_i, fr_b, fr_t, fr_l, fr_s, fr_n, hasd_0, hasd_i, Bool.and_self, Bool.and_true, nofz_i, nofz_b, intB_i, lenB_l, lenB_t, listB_t, tupB_l, maxB_i, cmp_lt, cmp_gt, cmp_ge, cmp_le, cmp_eq, cmp_ne, truthD_b, Option.isNone_some, List.length_map, neg_i, g1, g2, st1]
            refine ⟨_, ?_, _, _, _, _, _, _, _, _, _, rfl, rs 0 (-1) 1 0 (by decide) ?_, rfl⟩
            · rw [← lm, ← lm2, ← lm, la_01, lb_sw, la_m0, ← heq]
              exact flip_step hp hs hb
            · rw [la_01, lb_sw, la_m0]
              have := r.bd
              rw [hA, hB, hC] at this
              exact ⟨this.c, by have := this.b2; omega, by have := this.b1; omega, this.a⟩
          · have hq : (A == C) = true := by simpa using heq
            simp only [hq, decide_eq_false hb, W_seq, W_skip, W_asg, W_asgT, W_asgN, W_expr, W_ret, W_retn, W_brk, W_cnt, W_if, W_setix, W_par, W_ok, W_bind, kq_nx, kq_rt, kq_bk, kq_ct, iW_t, iW_f, wK_nx, wK_ct, wK_bk, wK_rt, wT_t, wT_f, fK_nx, fK_ct, fK_bk, fK_rt, fT_nm, tW, setT, setT.go, setT.go1, setixQ, parQ, setAll, szl0, szl1, szl2, szl3, szl4, szl5, szl6, szl7, szl8, szl9, szl10, szl11, szl12, szl13, szl14, Option.isSome_some, Option.isNone_none, List.getElem?_cons_zero, List.getElem?_cons_succ, Option.getD_some, ev, evA, evT, evO, gt, st, bind_ok, of_some, valsA, Option.map_some, demL, List.map_cons, List.map_nil, resolveA, List.all_nil, List.all_cons, if_true, Bool.false_eq_true, if_false, selL0, backsTo, op2_add, op2_sub, op2_mul, op2_mod, op2_fdiv, op2_and, addD_i, subD_i, fr_i, fr_b, fr_t, fr_l, fr_s, fr_n, hasd_0, hasd_i, Bool.and_self, Bool.and_true, nofz_i, nofz_b, intB_i, lenB_l, lenB_t, listB_t, tupB_l, maxB_i, cmp_lt, cmp_gt, cmp_ge, cmp_le, cmp_eq, cmp_ne, truthD_b, Option.isNone_some, List.length_map]
            exact ⟨g, h, i, j, by rw [e0]; rfl, r, by rw [hA, hB, hC]; exact ⟨hrng.1, hrng.2, by omega, fun _ => by omega⟩⟩
        · have hq : (A == C) = false := by simpa using heq
          simp only [hq, W_seq, W_skip, W_asg, W_asgT, W_asgN, W_expr, W_ret, W_retn, W_brk, W_cnt, W_if, W_setix, W_par, W_ok, W_bind, kq_nx, kq_rt, kq_bk, kq_ct, iW_t, iW_f, wK_nx, wK_ct, wK_bk, wK_rt, wT_t, wT_f, fK_nx, fK_ct, fK_bk, fK_rt, fT_nm, tW, setT, setT.go, setT.go1, setixQ, parQ, setAll, szl0, szl1, szl2, szl3, szl4, szl5, szl6, szl7, szl8, szl9, szl10, szl11, szl12, szl13, szl14, Option.isSome_some, Option.isNone_none, List.getElem?_cons_zero, List.getElem?_cons_succ, Option.getD_some, ev, evA, evT, evO, gt, st, bind_ok, of_some, valsA, Option.map_some, demL, List.map_cons, List.map_nil, resolveA, List.all_nil, List.all_cons, if_true, Bool.false_eq_true, if_false, selL0, backsTo, op2_add, op2_sub, op2_mul, op2_mod, op2_fdiv, op2_and, addD_i, subD_i, fr_i, fr_b, fr_t, fr_l, fr_s, fr_n, hasd_0, hasd_i, Bool.and_self, Bool.and_true, nofz_i, nofz_b, intB_i, lenB_l, lenB_t, listB_t, tupB_l, maxB_i, cmp_lt, cmp_gt, cmp_ge, cmp_le, cmp_eq, cmp_ne, truthD_b, Option.isNone_some, List.length_map]
          exact ⟨g, h, i, j, by rw [e0]; rfl, r, by rw [hA, hB, hC]; exact ⟨hrng.1, hrng.2, by omega, fun h => absurd h heq⟩⟩
    · have b0 : (sh A B != 0) = true := by simpa using hs
      have bd0 := r.bd
      rw [hA, hB, hC] at bd0
      obtain ⟨bd1, mu1⟩ := shift_step hp hD bd0 hs
      have ss : Sz 200 (sh A B) := by
        have h1 := bd1.b1
        have h2 := bd1.b2
        have h3 := bd0.b1
        have h4 := bd0.b2
        have h5 : (sh A B).natAbs ≤ (2 * A * sh A B).natAbs := by
          rw [Int.natAbs_mul]
          exact Nat.le_mul_of_pos_left _ (by omega)
        unfold Sz
        unfold BB at *
        omega
      have g1 := hl A B C 1 (sh A B) 0 1 sA sB sC z1 ss z0 z1
      have g2 := ht g h i j 1 (sh A B) 0 1 M.sg M.sh M.si M.sj z1 ss z0 z1
      simp only [fD, mD] at g1
      simp only [mD] at g2
      simp only [mD, b0, W_seq, W_skip, W_asg, W_asgT, W_asgN, W_expr, W_ret, W_retn, W_brk, W_cnt, W_if, W_setix, W_par, W_ok, W_bind, kq_nx, kq_rt, kq_bk, kq_ct, iW_t, iW_f, wK_nx, wK_ct, wK_bk, wK_rt, wT_t, wT_f, fK_nx, fK_ct, fK_bk, fK_rt, fT_nm, tW, setT, setT.go, setT.go1, setixQ, parQ, setAll, szl0, szl1, szl2, szl3, szl4, szl5, szl6, szl7, szl8, szl9, szl10, szl11, szl12, szl13, szl14, Option.isSome_some, Option.isNone_none, List.getElem?_cons_zero, List.getElem?_cons_succ, Option.getD_some, ev, evA, evT, evO, gt, st, bind_ok, of_some, valsA, Option.map_some, demL, List.map_cons, List.map_nil, resolveA, List.all_nil, List.all_cons, if_true, Bool.false_eq_true, if_false, selL0, backsTo, op2_add, op2_sub, op2_mul, op2_mod, op2_fdiv, op2_and, addD_i, subD_i, fr_i, fr_b, fr_t, fr_l, fr_s, fr_n, hasd_0, hasd_i, Bool.and_self, Bool.and_true, nofz_i, nofz_b, intB_i, lenB_l, lenB_t, listB_t, tupB_l, maxB_i, cmp_lt, cmp_gt, cmp_ge, cmp_le, cmp_eq, cmp_ne, truthD_b, Option.isNone_some, List.length_map, g1, g2, st1]
      refine ⟨_, mu1, _, _, _, _, _, _, _, _, _, rfl, rs 1 (sh A B) 0 1 (by omega) ?_, ?_⟩
      · rw [la_10, lb_sh]; exact bd1
      · rw [← lm, ← lm2, ← lm, la_10, lb_sh]
theorem red_run {k : Nat} {a b c : Int} (f : Fs a b c) : ∃ g h i j, callN defs con Fu (k + 2) "reduction" [(fD a b c, 0)] = .ok (.tup [ledD a b c g h i j, mD g h i j], 0) [none] ∧ RI a b c g h i j ∧ Red (la a b c g i) (lb a b c g h i j) (la a b c h j) := by
  obtain ⟨v, outs, h, e2, g, hh, i, j, e1, r1, r2⟩ := callN_W (R := fun v outs => outs = [none] ∧ ∃ g h i j, v = (.tup [ledD a b c g h i j, mD g h i j], 0) ∧ RI a b c g h i j ∧ Red (la a b c g i) (lb a b c g h i j) (la a b c h j)) (fuel := Fu) (k := k + 1) (con := con) (args := [(fD a b c, 0)]) lk_red rfl rfl
    (W_imp (red_body f rfl (fun a b c g h i j h1 h2 h3 h4 h5 h6 h7 => lead_run h1 h2 h3 h4 h5 h6 h7) (fun g h i j k m n o h1 h2 h3 h4 h5 h6 h7 h8 => times_run h1 h2 h3 h4 h5 h6 h7 h8)) (by
      rintro fl ρ ⟨g, h, i, j, rfl, r1, r2⟩
      exact ⟨rfl, g, h, i, j, rfl, r1, r2⟩))
  subst e1 e2
  exact ⟨g, hh, i, j, h, r1, r2⟩
end Pi.K37
/-! K37f: the functions of forms that the law calls -/
namespace Pi.K37
open PySem L2 Pi.Fm
theorem lk_discof : defs.lookup ("discriminant_of" : Str) = some d_discriminant_of := by rfl
theorem discof_run {k : Nat} {a b c : Int} (f : Fs a b c) : callN defs con Fu (k + 4) "discriminant_of" [(fD a b c, 0)] = .ok (.int (b * b - 4 * a * c), 0) [none] := by
  have h1 := form_run (fuel := Fu) (k := k) f
  have h2 := discat_run (fuel := Fu) (k := k + 2) f
  obtain ⟨v, outs, h, e1, e2⟩ := callN_W (R := fun v outs => v = (.int (b * b - 4 * a * c), 0) ∧ outs = [none]) (fuel := Fu) (k := k + 3) (con := con) (args := [(fD a b c, 0)]) (ρ0 := [some (fD a b c, 0)]) lk_discof rfl rfl
    (by
      generalize callN defs con Fu (k + 3) = call at *
      unfold d_discriminant_of
      simp only [W_seq, W_skip, W_asg, W_asgT, W_asgN, W_expr, W_ret, W_retn, W_brk, W_cnt, W_if, W_setix, W_par, W_ok, W_bind, kq_nx, kq_rt, kq_bk, kq_ct, iW_t, iW_f, wK_nx, wK_ct, wK_bk, wK_rt, wT_t, wT_f, fK_nx, fK_ct, fK_bk, fK_rt, fT_nm, tW, setT, setT.go, setT.go1, setixQ, parQ, setAll, szl0, szl1, szl2, szl3, szl4, szl5, szl6, szl7, szl8, szl9, szl10, szl11, szl12, szl13, szl14, Option.isSome_some, Option.isNone_none, List.getElem?_cons_zero, List.getElem?_cons_succ, Option.getD_some, ev, evA, evT, evO, gt, st, bind_ok, of_some, valsA, Option.map_some, demL, List.map_cons, List.map_nil, resolveA, List.all_nil, List.all_cons, if_true, Bool.false_eq_true, if_false, selL0, backsTo, op2_add, op2_sub, op2_mul, op2_mod, op2_fdiv, op2_and, addD_i, subD_i, fr_i, fr_b, fr_t, fr_l, fr_s, fr_n, hasd_0, hasd_i, Bool.and_self, Bool.and_true, nofz_i, nofz_b, intB_i, lenB_l, lenB_t, listB_t, tupB_l, maxB_i, cmp_lt, cmp_gt, cmp_ge, cmp_le, cmp_eq, cmp_ne, truthD_b, Option.isNone_some, List.length_map, h1, Bool.not_true, h2]
      exact ⟨trivial, rfl⟩)
  subst e1 e2
  exact h
theorem lk_value : defs.lookup ("value_at" : Str) = some d_value_at := by rfl
def va (a b c x y : Int) : Int := a * x * x + b * x * y + c * y * y
theorem value_run {k : Nat} {a b c x y : Int} (f : Fs a b c) (sx : Sz 200 x) (sy : Sz 200 y) : callN defs con Fu (k + 4) "value_at" [(fD a b c, 0), (.int x, 0), (.int y, 0)] = .ok (.int (va a b c x y), 0) [none, none, none] := by
  have h1 := form_run (fuel := Fu) (k := k) f
  have sa := f.sa.mono (l := 200) (by decide)
  have sb := f.sb.mono (l := 200) (by decide)
  have sc := f.sc.mono (l := 200) (by decide)
  obtain ⟨v, outs, h, e1, e2⟩ := callN_W (R := fun v outs => v = (.int (va a b c x y), 0) ∧ outs = [none, none, none]) (fuel := Fu) (k := k + 3) (con := con) (args := [(fD a b c, 0), (.int x, 0), (.int y, 0)]) (ρ0 := [some (fD a b c, 0), some (.int x, 0), some (.int y, 0), none, none, none]) lk_value rfl rfl
    (by
      generalize callN defs con Fu (k + 3) = call at *
      unfold d_value_at
      simp only [fD] at h1 ⊢
      simp only [W_seq, W_skip, W_asg, W_asgT, W_asgN, W_expr, W_ret, W_retn, W_brk, W_cnt, W_if, W_setix, W_par, W_ok, W_bind, kq_nx, kq_rt, kq_bk, kq_ct, iW_t, iW_f, wK_nx, wK_ct, wK_bk, wK_rt, wT_t, wT_f, fK_nx, fK_ct, fK_bk, fK_rt, fT_nm, tW, setT, setT.go, setT.go1, setixQ, parQ, setAll, szl0, szl1, szl2, szl3, szl4, szl5, szl6, szl7, szl8, szl9, szl10, szl11, szl12, szl13, szl14, Option.isSome_some, Option.isNone_none, List.getElem?_cons_zero, List.getElem?_cons_succ, Option.getD_some, ev, evA, evT, evO, gt, st, bind_ok, of_some, valsA, Option.map_some, demL, List.map_cons, List.map_nil, resolveA, List.all_nil, List.all_cons, if_true, Bool.false_eq_true, if_false, selL0, backsTo, op2_add, op2_sub, op2_mul, op2_mod, op2_fdiv, op2_and, addD_i, subD_i, fr_i, fr_b, fr_t, fr_l, fr_s, fr_n, hasd_0, hasd_i, Bool.and_self, Bool.and_true, nofz_i, nofz_b, intB_i, lenB_l, lenB_t, listB_t, tupB_l, maxB_i, cmp_lt, cmp_gt, cmp_ge, cmp_le, cmp_eq, cmp_ne, truthD_b, Option.isNone_some, List.length_map, h1, Bool.not_true, mulD_i (mk2 sa sx), mulD_i (mk3 sa sx sx), mulD_i (mk2 sb sx), mulD_i (mk3 sb sx sy), mulD_i (mk2 sc sy), mulD_i (mk3 sc sy sy), va]
      exact ⟨trivial, rfl⟩)
  subst e1 e2
  exact h
theorem lk_ledform : defs.lookup ("led_form" : Str) = some d_led_form := by rfl
theorem ledform_run {k : Nat} {a b c g h i j : Int} (f : Fs a b c) (m : Ms 200 g h i j) : callN defs con Fu (k + 4) "led_form" [(fD a b c, 0), (mD g h i j, 0)] = .ok (ledD a b c g h i j, 0) [none, none] := by
  have h1 := form_run (fuel := Fu) (k := k) f
  have h2 := matrix_run (fuel := Fu) (k := k) m
  have h3 := lead_run (fuel := Fu) (k := k + 2) (n := 0) (f.sa.mono (l := 200) (by decide)) (f.sb.mono (l := 200) (by decide)) (f.sc.mono (l := 200) (by decide)) m.sg m.sh m.si m.sj
  obtain ⟨v, outs, h, e1, e2⟩ := callN_W (R := fun v outs => v = (ledD a b c g h i j, 0) ∧ outs = [none, none]) (fuel := Fu) (k := k + 3) (con := con) (args := [(fD a b c, 0), (mD g h i j, 0)]) (ρ0 := [some (fD a b c, 0), some (mD g h i j, 0)]) lk_ledform rfl rfl
    (by
      generalize callN defs con Fu (k + 3) = call at *
      unfold d_led_form
      simp only [W_seq, W_skip, W_asg, W_asgT, W_asgN, W_expr, W_ret, W_retn, W_brk, W_cnt, W_if, W_setix, W_par, W_ok, W_bind, kq_nx, kq_rt, kq_bk, kq_ct, iW_t, iW_f, wK_nx, wK_ct, wK_bk, wK_rt, wT_t, wT_f, fK_nx, fK_ct, fK_bk, fK_rt, fT_nm, tW, setT, setT.go, setT.go1, setixQ, parQ, setAll, szl0, szl1, szl2, szl3, szl4, szl5, szl6, szl7, szl8, szl9, szl10, szl11, szl12, szl13, szl14, Option.isSome_some, Option.isNone_none, List.getElem?_cons_zero, List.getElem?_cons_succ, Option.getD_some, ev, evA, evT, evO, gt, st, bind_ok, of_some, valsA, Option.map_some, demL, List.map_cons, List.map_nil, resolveA, List.all_nil, List.all_cons, if_true, Bool.false_eq_true, if_false, selL0, backsTo, op2_add, op2_sub, op2_mul, op2_mod, op2_fdiv, op2_and, addD_i, subD_i, fr_i, fr_b, fr_t, fr_l, fr_s, fr_n, hasd_0, hasd_i, Bool.and_self, Bool.and_true, nofz_i, nofz_b, intB_i, lenB_l, lenB_t, listB_t, tupB_l, maxB_i, cmp_lt, cmp_gt, cmp_ge, cmp_le, cmp_eq, cmp_ne, truthD_b, Option.isNone_some, List.length_map, h1, h2, h3, Bool.not_true]
      exact ⟨trivial, rfl⟩)
  subst e1 e2
  exact h
theorem lk_mprod : defs.lookup ("matrix_product" : Str) = some d_matrix_product := by rfl
theorem mprod_run {q : Nat} {g h i j k m n o : Int} (m1 : Ms 200 g h i j) (m2 : Ms 200 k m n o) : callN defs con Fu (q + 4) "matrix_product" [(mD g h i j, 0), (mD k m n o, 0)] = .ok (timD g h i j k m n o, 0) [none, none] := by
  have h1 := matrix_run (fuel := Fu) (k := q) m1
  have h2 := matrix_run (fuel := Fu) (k := q) m2
  have h3 := times_run (fuel := Fu) (q := q + 2) (p := 0) (r := 0) m1.sg m1.sh m1.si m1.sj m2.sg m2.sh m2.si m2.sj
  obtain ⟨v, outs, h, e1, e2⟩ := callN_W (R := fun v outs => v = (timD g h i j k m n o, 0) ∧ outs = [none, none]) (fuel := Fu) (k := q + 3) (con := con) (args := [(mD g h i j, 0), (mD k m n o, 0)]) (ρ0 := [some (mD g h i j, 0), some (mD k m n o, 0)]) lk_mprod rfl rfl
    (by
      generalize callN defs con Fu (q + 3) = call at *
      unfold d_matrix_product
      simp only [W_seq, W_skip, W_asg, W_asgT, W_asgN, W_expr, W_ret, W_retn, W_brk, W_cnt, W_if, W_setix, W_par, W_ok, W_bind, kq_nx, kq_rt, kq_bk, kq_ct, iW_t, iW_f, wK_nx, wK_ct, wK_bk, wK_rt, wT_t, wT_f, fK_nx, fK_ct, fK_bk, fK_rt, fT_nm, tW, setT, setT.go, setT.go1, setixQ, parQ, setAll, szl0, szl1, szl2, szl3, szl4, szl5, szl6, szl7, szl8, szl9, szl10, szl11, szl12, szl13, szl14, Option.isSome_some, Option.isNone_none, List.getElem?_cons_zero, List.getElem?_cons_succ, Option.getD_some, ev, evA, evT, evO, gt, st, bind_ok, of_some, valsA, Option.map_some, demL, List.map_cons, List.map_nil, resolveA, List.all_nil, List.all_cons, if_true, Bool.false_eq_true, if_false, selL0, backsTo, op2_add, op2_sub, op2_mul, op2_mod, op2_fdiv, op2_and, addD_i, subD_i, fr_i, fr_b, fr_t, fr_l, fr_s, fr_n, hasd_0, hasd_i, Bool.and_self, Bool.and_true, nofz_i, nofz_b, intB_i, lenB_l, lenB_t, listB_t, tupB_l, maxB_i, cmp_lt, cmp_gt, cmp_ge, cmp_le, cmp_eq, cmp_ne, truthD_b, Option.isNone_some, List.length_map, h1, h2, h3, Bool.not_true]
      exact ⟨trivial, rfl⟩)
  subst e1 e2
  exact h
theorem lk_reduced : defs.lookup ("reduced" : Str) = some d_reduced := by rfl
theorem reduced_run {k : Nat} {a b c : Int} (f : Fs a b c) : ∃ g h i j, callN defs con Fu (k + 4) "reduced" [(fD a b c, 0)] = .ok (ledD a b c g h i j, 0) [none] ∧ RI a b c g h i j ∧ Red (la a b c g i) (lb a b c g h i j) (la a b c h j) := by
  have h1 := form_run (fuel := Fu) (k := k) f
  obtain ⟨g, hh, i, j, h2, r1, r2⟩ := red_run (k := k + 1) f
  refine ⟨g, hh, i, j, ?_, r1, r2⟩
  obtain ⟨v, outs, h, e1, e2⟩ := callN_W (R := fun v outs => v = (ledD a b c g hh i j, 0) ∧ outs = [none]) (fuel := Fu) (k := k + 3) (con := con) (args := [(fD a b c, 0)]) (ρ0 := [some (fD a b c, 0)]) lk_reduced rfl rfl
    (by
      generalize callN defs con Fu (k + 3) = call at *
      unfold d_reduced
      simp only [W_seq, W_skip, W_asg, W_asgT, W_asgN, W_expr, W_ret, W_retn, W_brk, W_cnt, W_if, W_setix, W_par, W_ok, W_bind, kq_nx, kq_rt, kq_bk, kq_ct, iW_t, iW_f, wK_nx, wK_ct, wK_bk, wK_rt, wT_t, wT_f, fK_nx, fK_ct, fK_bk, fK_rt, fT_nm, tW, setT, setT.go, setT.go1, setixQ, parQ, setAll, szl0, szl1, szl2, szl3, szl4, szl5, szl6, szl7, szl8, szl9, szl10, szl11, szl12, szl13, szl14, Option.isSome_some, Option.isNone_none, List.getElem?_cons_zero, List.getElem?_cons_succ, Option.getD_some, ev, evA, evT, evO, gt, st, bind_ok, of_some, valsA, Option.map_some, demL, List.map_cons, List.map_nil, resolveA, List.all_nil, List.all_cons, if_true, Bool.false_eq_true, if_false, selL0, backsTo, op2_add, op2_sub, op2_mul, op2_mod, op2_fdiv, op2_and, addD_i, subD_i, fr_i, fr_b, fr_t, fr_l, fr_s, fr_n, hasd_0, hasd_i, Bool.and_self, Bool.and_true, nofz_i, nofz_b, intB_i, lenB_l, lenB_t, listB_t, tupB_l, maxB_i, cmp_lt, cmp_gt, cmp_ge, cmp_le, cmp_eq, cmp_ne, truthD_b, Option.isNone_some, List.length_map, h1, h2, Bool.not_true, ix_t0]
      exact ⟨trivial, rfl⟩)
  subst e1 e2
  exact h
/-! ### the law's own -/
theorem lk_lled : defs.lookup ("_law_led" : Str) = some d__law_led := by rfl
theorem lled_run {fuel k : Nat} {a b c g h i j : Int} (sa : Sz 200 a) (sb : Sz 200 b) (sc : Sz 200 c) (sg : Sz 200 g) (sh : Sz 200 h) (si : Sz 200 i) (sj : Sz 200 j) : callN defs con fuel (k + 1) "_law_led" [(fD a b c, 0), (mD g h i j, 0)] = .ok (ledD a b c g h i j, 0) [none, none] := by
  obtain ⟨v, outs, h, e1, e2⟩ := callN_W (R := fun v outs => v = (ledD a b c g h i j, 0) ∧ outs = [none, none]) (fuel := fuel) (k := k) (con := con) (args := [(fD a b c, 0), (mD g h i j, 0)]) (ρ0 := [some (fD a b c, 0), some (mD g h i j, 0), none, none, none, none, none, none, none, none, none]) lk_lled rfl rfl
    (by
      unfold d__law_led
      simp only [W_seq, W_skip, W_asg, W_asgT, W_asgN, W_expr, W_ret, W_retn, W_brk, W_cnt, W_if, W_setix, W_par, W_ok, W_bind, kq_nx, kq_rt, kq_bk, kq_ct, iW_t, iW_f, wK_nx, wK_ct, wK_bk, wK_rt, wT_t, wT_f, fK_nx, fK_ct, fK_bk, fK_rt, fT_nm, tW, setT, setT.go, setT.go1, setixQ, parQ, setAll, szl0, szl1, szl2, szl3, szl4, szl5, szl6, szl7, szl8, szl9, szl10, szl11, szl12, szl13, szl14, Option.isSome_some, Option.isNone_none, List.getElem?_cons_zero, List.getElem?_cons_succ, Option.getD_some, ev, evA, evT, evO, gt, st, bind_ok, of_some, valsA, Option.map_some, demL, List.map_cons, List.map_nil, resolveA, List.all_nil, List.all_cons, if_true, Bool.false_eq_true, if_false, selL0, backsTo, op2_add, op2_sub, op2_mul, op2_mod, op2_fdiv, op2_and, addD_i, subD_i, fr_i, fr_b, fr_t, fr_l, fr_s, fr_n, hasd_0, hasd_i, Bool.and_self, Bool.and_true, nofz_i, nofz_b, intB_i, lenB_l, lenB_t, listB_t, tupB_l, maxB_i, cmp_lt, cmp_gt, cmp_ge, cmp_le, cmp_eq, cmp_ne, truthD_b, Option.isNone_some, List.length_map, fD, mD, ledD, la, lb, mulD_i (mk2 sa sg), mulD_i (mk3 sa sg sg), mulD_i (mk2 sb sg), mulD_i (mk3 sb sg si), mulD_i (mk2 sc si), mulD_i (mk3 sc si si), mulD_i (mk2l sa), mulD_i (mk3l sa sg), mulD_i (mk5 sa sg sh), mulD_i (mk2 sg sj), mulD_i (mk2 sh si), mulD_i (mk6 sb sg sj sh si), mulD_i (mk2l sc), mulD_i (mk3l sc si), mulD_i (mk5 sc si sj), mulD_i (mk2 sa sh), mulD_i (mk3 sa sh sh), mulD_i (mk2 sb sh), mulD_i (mk3 sb sh sj), mulD_i (mk2 sc sj), mulD_i (mk3 sc sj sj)]
      exact ⟨trivial, rfl⟩)
  subst e1 e2
  exact h
theorem lk_ltimes : defs.lookup ("_law_times" : Str) = some d__law_times := by rfl
theorem ltimes_run {fuel q : Nat} {g h i j k m n o : Int} (sg : Sz 200 g) (sh : Sz 200 h) (si : Sz 200 i) (sj : Sz 200 j) (sk : Sz 200 k) (sm : Sz 200 m) (sn : Sz 200 n) (so : Sz 200 o) : callN defs con fuel (q + 1) "_law_times" [(mD g h i j, 0), (mD k m n o, 0)] = .ok (timD g h i j k m n o, 0) [none, none] := by
  obtain ⟨v, outs, h, e1, e2⟩ := callN_W (R := fun v outs => v = (timD g h i j k m n o, 0) ∧ outs = [none, none]) (fuel := fuel) (k := q) (con := con) (args := [(mD g h i j, 0), (mD k m n o, 0)]) (ρ0 := [some (mD g h i j, 0), some (mD k m n o, 0), none, none, none, none, none, none, none, none]) lk_ltimes rfl rfl
    (by
      unfold d__law_times
      simp only [W_seq, W_skip, W_asg, W_asgT, W_asgN, W_expr, W_ret, W_retn, W_brk, W_cnt, W_if, W_setix, W_par, W_ok, W_bind, kq_nx, kq_rt, kq_bk, kq_ct, iW_t, iW_f, wK_nx, wK_ct, wK_bk, wK_rt, wT_t, wT_f, fK_nx, fK_ct, fK_bk, fK_rt, fT_nm, tW, setT, setT.go, setT.go1, setixQ, parQ, setAll, szl0, szl1, szl2, szl3, szl4, szl5, szl6, szl7, szl8, szl9, szl10, szl11, szl12, szl13, szl14, Option.isSome_some, Option.isNone_none, List.getElem?_cons_zero, List.getElem?_cons_succ, Option.getD_some, ev, evA, evT, evO, gt, st, bind_ok, of_some, valsA, Option.map_some, demL, List.map_cons, List.map_nil, resolveA, List.all_nil, List.all_cons, if_true, Bool.false_eq_true, if_false, selL0, backsTo, op2_add, op2_sub, op2_mul, op2_mod, op2_fdiv, op2_and, addD_i, subD_i, fr_i, fr_b, fr_t, fr_l, fr_s, fr_n, hasd_0, hasd_i, Bool.and_self, Bool.and_true, nofz_i, nofz_b, intB_i, lenB_l, lenB_t, listB_t, tupB_l, maxB_i, cmp_lt, cmp_gt, cmp_ge, cmp_le, cmp_eq, cmp_ne, truthD_b, Option.isNone_some, List.length_map, mD, timD, mulD_i (mk2 sg sk), mulD_i (mk2 sh sn), mulD_i (mk2 sg sm), mulD_i (mk2 sh so), mulD_i (mk2 si sk), mulD_i (mk2 sj sn), mulD_i (mk2 si sm), mulD_i (mk2 sj so)]
      exact ⟨trivial, rfl⟩)
  subst e1 e2
  exact h
theorem lk_lval : defs.lookup ("_law_value" : Str) = some d__law_value := by rfl
theorem lval_run {fuel k : Nat} {a b c x y : Int} (sa : Sz 200 a) (sb : Sz 200 b) (sc : Sz 200 c) (sx : Sz 200 x) (sy : Sz 200 y) : callN defs con fuel (k + 1) "_law_value" [(fD a b c, 0), (.int x, 0), (.int y, 0)] = .ok (.int (va a b c x y), 0) [none, none, none] := by
  have i0 : ixD (.tup [.int a, .int b, .int c]) (.int 0) = some (.int a) := ix_n (n := 0) rfl
  have i1 : ixD (.tup [.int a, .int b, .int c]) (.int 1) = some (.int b) := ix_n (n := 1) rfl
  have i2 : ixD (.tup [.int a, .int b, .int c]) (.int 2) = some (.int c) := ix_n (n := 2) rfl
  obtain ⟨v, outs, h, e1, e2⟩ := callN_W (R := fun v outs => v = (.int (va a b c x y), 0) ∧ outs = [none, none, none]) (fuel := fuel) (k := k) (con := con) (args := [(fD a b c, 0), (.int x, 0), (.int y, 0)]) (ρ0 := [some (fD a b c, 0), some (.int x, 0), some (.int y, 0)]) lk_lval rfl rfl
    (by
      unfold d__law_value
      simp only [W_seq, W_skip, W_asg, W_asgT, W_asgN, W_expr, W_ret, W_retn, W_brk, W_cnt, W_if, W_setix, W_par, W_ok, W_bind, kq_nx, kq_rt, kq_bk, kq_ct, iW_t, iW_f, wK_nx, wK_ct, wK_bk, wK_rt, wT_t, wT_f, fK_nx, fK_ct, fK_bk, fK_rt, fT_nm, tW, setT, setT.go, setT.go1, setixQ, parQ, setAll, szl0, szl1, szl2, szl3, szl4, szl5, szl6, szl7, szl8, szl9, szl10, szl11, szl12, szl13, szl14, Option.isSome_some, Option.isNone_none, List.getElem?_cons_zero, List.getElem?_cons_succ, Option.getD_some, ev, evA, evT, evO, gt, st, bind_ok, of_some, valsA, Option.map_some, demL, List.map_cons, List.map_nil, resolveA, List.all_nil, List.all_cons, if_true, Bool.false_eq_true, if_false, selL0, backsTo, op2_add, op2_sub, op2_mul, op2_mod, op2_fdiv, op2_and, addD_i, subD_i, fr_i, fr_b, fr_t, fr_l, fr_s, fr_n, hasd_0, hasd_i, Bool.and_self, Bool.and_true, nofz_i, nofz_b, intB_i, lenB_l, lenB_t, listB_t, tupB_l, maxB_i, cmp_lt, cmp_gt, cmp_ge, cmp_le, cmp_eq, cmp_ne, truthD_b, Option.isNone_some, List.length_map, fD, i0, i1, i2, mulD_i (mk2 sa sx), mulD_i (mk3 sa sx sx), mulD_i (mk2 sb sx), mulD_i (mk3 sb sx sy), mulD_i (mk2 sc sy), mulD_i (mk3 sc sy sy), va]
      exact ⟨trivial, rfl⟩)
  subst e1 e2
  exact h
end Pi.K37
/-! K37g: drawn matrices, integers, discriminants -/
namespace Pi.K37
open PySem L2 Pi.Fm
/-- what a draw does, of a call -/
def Draws (call : Str → List Sl → Cr) : Prop := ∀ (n many : Int) (d : D), DeckOk n d → n ≤ 10 ^ 15 → 0 < many → many < 1073741824 → ∃ r d', call "_law_draw" [(d, 2), (.int many, 0)] = .ok (.int r, 0) [some (d', 2), none] ∧ 0 ≤ r ∧ r < many ∧ DeckOk (n + 1) d'
def Picks (call : Str → List Sl → Cr) : Prop := ∀ (c : Int) (n : Nat) (d : D) (b : Bool) (l : List D), DeckOk c d → c ≤ 10 ^ 15 → 0 < l.length → l.length < 1073741824 → ∃ x d', call "_law_pick" [(d, 2), (seqD b l, n)] = .ok (x, 0) [some (d', 2), none] ∧ x ∈ l ∧ DeckOk (c + 1) d'
theorem draws_ok {fuel k : Nat} : Draws (callN defs con fuel (k + 1)) := fun n many d h1 h2 h3 h4 => draw_F h1 h2 h3 h4
theorem picks_ok {fuel k : Nat} : Picks (callN defs con fuel (k + 2)) := fun c n d b l h1 h2 h3 h4 => pick_F h1 h2 h3 h4
/-! ### matrices -/
theorem lk_lmat : defs.lookup ("_law_matrix" : Str) = some d__law_matrix := by rfl
/-- entries of at most B -/
structure Mb (B : Nat) (g h i j : Int) : Prop where
  dt : g * j - h * i = 1
  g : g.natAbs ≤ B
  h : h.natAbs ≤ B
  i : i.natAbs ≤ B
  j : j.natAbs ≤ B
theorem Mb.ms {B n : Nat} {g h i j : Int} (m : Mb B g h i j) (hB : B < 2 ^ n) : Ms n g h i j := ⟨m.dt, Nat.lt_of_le_of_lt m.g hB, Nat.lt_of_le_of_lt m.h hB, Nat.lt_of_le_of_lt m.i hB, Nat.lt_of_le_of_lt m.j hB⟩
theorem ab_mul {x k : Int} {B c : Nat} (hx : x.natAbs ≤ B) (hk : k.natAbs ≤ c) : (x * k).natAbs ≤ B * c := by
  rw [Int.natAbs_mul]; exact Nat.mul_le_mul hx hk
theorem Mb.up {B B' : Nat} {g h i j k : Int} (m : Mb B g h i j) (hk : k.natAbs ≤ 999) (hB : B' = B * 1000) :
    Mb B' (g * 1 + h * 0) (g * k + h * 1) (i * 1 + j * 0) (i * k + j * 1) ∧ Mb B' (g * 1 + h * k) (g * 0 + h * 1) (i * 1 + j * k) (i * 0 + j * 1) ∧ Mb B' (g * 0 + h * 1) (g * -1 + h * 0) (i * 0 + j * 1) (i * -1 + j * 0) := by
  have a1 := ab_mul m.g hk
  have a2 := ab_mul m.h hk
  have a3 := ab_mul m.i hk
  have a4 := ab_mul m.j hk
  have b1 := m.g
  have b2 := m.h
  have b3 := m.i
  have b4 := m.j
  refine ⟨⟨det_mul m.dt (by omega), ?_, ?_, ?_, ?_⟩, ⟨det_mul m.dt (by omega), ?_, ?_, ?_, ?_⟩, ⟨det_mul m.dt (by omega), ?_, ?_, ?_, ?_⟩⟩ <;> omega
theorem lmat_body {cf : Cf} {n many great : Int} {d : D} (hdr : Draws cf.call) (ht : ∀ g h i j k m n o : Int, Sz 200 g → Sz 200 h → Sz 200 i → Sz 200 j → Sz 200 k → Sz 200 m → Sz 200 n → Sz 200 o → cf.call "_law_times" [(mD g h i j, 0), (mD k m n o, 0)] = .ok (timD g h i j k m n o, 0) [none, none])
    (hd : DeckOk n d) (hn0 : 0 ≤ n) (hn : n ≤ 10 ^ 14) (h0 : 0 ≤ many) (h6 : many ≤ 6) (g0 : 0 ≤ great) (g1 : great ≤ 999) :
    (exec cf d__law_matrix.body [some (d, 2), some (.int many, 0), some (.int great, 0), none, none, none, none]).W fun fl ρ => ∃ g h i j d', fl = .rt (mD g h i j, 0) ∧ gt ρ 0 = some (d', 2) ∧ Mb (1000 ^ 6) g h i j ∧ DeckOk (n + 13) d' := by
  obtain ⟨r, d1, e1, r0, r1, hd1⟩ := hdr n (many + 1) d hd (by omega) (by omega) (by omega)
  unfold d__law_matrix
  simp only [W_seq, W_skip, W_asg, W_asgT, W_asgN, W_expr, W_ret, W_retn, W_brk, W_cnt, W_if, W_setix, W_par, W_ok, W_bind, kq_nx, kq_rt, kq_bk, kq_ct, iW_t, iW_f, wK_nx, wK_ct, wK_bk, wK_rt, wT_t, wT_f, fK_nx, fK_ct, fK_bk, fK_rt, fT_nm, tW, setT, setT.go, setT.go1, setixQ, parQ, setAll, szl0, szl1, szl2, szl3, szl4, szl5, szl6, szl7, szl8, szl9, szl10, szl11, szl12, szl13, szl14, Option.isSome_some, Option.isNone_none, List.getElem?_cons_zero, List.getElem?_cons_succ, Option.getD_some, ev, evA, evT, evO, gt, st, bind_ok, of_some, valsA, Option.map_some, demL, List.map_cons, List.map_nil, resolveA, List.all_nil, List.all_cons, if_true, Bool.false_eq_true, if_false, selL0, backsTo, op2_add, op2_sub, op2_mul, op2_mod, op2_fdiv, op2_and, addD_i, subD_i, fr_i, fr_b, fr_t, fr_l, fr_s, fr_n, hasd_0, hasd_i, Bool.and_self, Bool.and_true, nofz_i, nofz_b, intB_i, lenB_l, lenB_t, listB_t, tupB_l, maxB_i, cmp_lt, cmp_gt, cmp_ge, cmp_le, cmp_eq, cmp_ne, truthD_b, Option.isNone_some, List.length_map]
  have hi : evI cf (.irng1 (.call "_law_draw" (.cons (.lend 0) (.cons (.op2 .Add (.var 1) (.int 1)) .nil)) [] [(0, 0)])) [some (d, 2), some (.int many, 0), some (.int great, 0), some (mD 1 0 0 1, 0), none, none, none] = .ok ((List.range r.toNat).map fun k : Nat => D.int (k : Int)) [some (d1, 2), some (.int many, 0), some (.int great, 0), some (mD 1 0 0 1, 0), none, none, none] := by
    refine evI_irng1 (x := (.int r, 0)) ?_ ?_
    · simp only [exec, ev, evA, evT, evO, gt, st, bind_ok, of_some, valsA, Option.map_some, demL, List.map_cons, List.map_nil, resolveA, List.all_nil, List.all_cons, if_true, Bool.false_eq_true, if_false, selL0, backsTo, op2_add, op2_sub, op2_mul, op2_mod, op2_fdiv, op2_and, addD_i, subD_i, fr_i, fr_b, fr_t, fr_l, fr_s, fr_n, hasd_0, hasd_i, Bool.and_self, Bool.and_true, nofz_i, nofz_b, intB_i, lenB_l, lenB_t, listB_t, tupB_l, maxB_i, cmp_lt, cmp_gt, cmp_ge, cmp_le, cmp_eq, cmp_ne, truthD_b, Option.isNone_some, List.length_map, Option.isSome_some, Option.isNone_none, List.getElem?_cons_zero, Option.getD_some, e1]
    · have := rngZ (n := r.toNat) (by omega)
      rw [show ((r.toNat : Nat) : Int) = r by omega] at this
      exact this
  refine W_for (fun t ρ => ∃ g h i j d' x4 x5 x6, ρ = [some (d', 2), some (.int many, 0), some (.int great, 0), some (mD g h i j, 0), x4, x5, x6] ∧ Mb (1000 ^ t) g h i j ∧ DeckOk (n + 1 + 2 * t) d' ∧ t ≤ r.toNat) hi ⟨1, 0, 0, 1, d1, none, none, none, rfl, ⟨by decide, by decide, by decide, by decide, by decide⟩, by simpa using hd1, by omega⟩ ?_ ?_
  · rintro t x ρ hx ⟨g, h, i, j, d', x4, x5, x6, rfl, mb, hd', ht0⟩
    have htr : t < r.toNat := by have := (List.getElem?_eq_some_iff.mp hx).1; simpa using this
    obtain ⟨w, d2, e2, w0, w1, hd2⟩ := hdr _ 3 d' hd' (by omega) (by decide) (by decide)
    obtain ⟨v, d3, e3, v0, v1, hd3⟩ := hdr _ (2 * great + 1) d2 hd2 (by omega) (by omega) (by omega)
    have mg : mulOk 2 great = true := mulOk_small (by decide)
    have hB : 1000 ^ t ≤ 1000 ^ 5 := Nat.pow_le_pow_right (by decide) (by omega)
    have M := mb.ms (n := 200) (Nat.lt_of_le_of_lt hB (by decide))
    obtain ⟨u1, u2, u3⟩ := mb.up (k := v - great) (B' := 1000 ^ (t + 1)) (by omega) (Nat.pow_succ ..)
    have z0 : Sz 200 0 := by unfold Sz; decide
    have z1 : Sz 200 1 := by unfold Sz; decide
    have zm : Sz 200 (-1) := by unfold Sz; decide
    have zk : Sz 200 (v - great) := by unfold Sz; have : (v - great).natAbs ≤ 999 := by omega
                                       exact Nat.lt_of_le_of_lt this (by decide)
    have t1 := ht g h i j 1 (v - great) 0 1 M.sg M.sh M.si M.sj z1 zk z0 z1
    have t2 := ht g h i j 1 0 (v - great) 1 M.sg M.sh M.si M.sj z1 z0 zk z1
    have t3 := ht g h i j 0 (-1) 1 0 M.sg M.sh M.si M.sj z0 zm z1 z0
    have hd4 : DeckOk (n + 1 + 2 * ((t + 1 : Nat) : Int)) d3 := hd3.mono (by omega)
    simp only [mD] at t1 t2 t3 ⊢
    simp only [W_seq, W_skip, W_asg, W_asgT, W_asgN, W_expr, W_ret, W_retn, W_brk, W_cnt, W_if, W_setix, W_par, W_ok, W_bind, kq_nx, kq_rt, kq_bk, kq_ct, iW_t, iW_f, wK_nx, wK_ct, wK_bk, wK_rt, wT_t, wT_f, fK_nx, fK_ct, fK_bk, fK_rt, fT_nm, tW, setT, setT.go, setT.go1, setixQ, parQ, setAll, szl0, szl1, szl2, szl3, szl4, szl5, szl6, szl7, szl8, szl9, szl10, szl11, szl12, szl13, szl14, Option.isSome_some, Option.isNone_none, List.getElem?_cons_zero, List.getElem?_cons_succ, Option.getD_some, ev, evA, evT, evO, gt, st, bind_ok, of_some, valsA, Option.map_some, demL, List.map_cons, List.map_nil, resolveA, List.all_nil, List.all_cons, if_true, Bool.false_eq_true, if_false, selL0, backsTo, op2_add, op2_sub, op2_mul, op2_mod, op2_fdiv, op2_and, addD_i, subD_i, fr_i, fr_b, fr_t, fr_l, fr_s, fr_n, hasd_0, hasd_i, Bool.and_self, Bool.and_true, nofz_i, nofz_b, intB_i, lenB_l, lenB_t, listB_t, tupB_l, maxB_i, cmp_lt, cmp_gt, cmp_ge, cmp_le, cmp_eq, cmp_ne, truthD_b, Option.isNone_some, List.length_map, e2, mulD_i mg, e3, neg_i]
    have i0 : ixD (.tup [.tup [.int 1, .int (v - great), .int 0, .int 1], .tup [.int 1, .int 0, .int (v - great), .int 1], .tup [.int 0, .int (-1), .int 1, .int 0]]) (.int w) = if w = 0 then some (.tup [.int 1, .int (v - great), .int 0, .int 1]) else if w = 1 then some (.tup [.int 1, .int 0, .int (v - great), .int 1]) else some (.tup [.int 0, .int (-1), .int 1, .int 0]) := by
      rcases (show w = 0 ∨ w = 1 ∨ w = 2 by omega) with rfl | rfl | rfl
      · exact ix_n (n := 0) rfl
      · exact ix_n (n := 1) rfl
      · exact ix_n (n := 2) rfl
    rcases (show w = 0 ∨ w = 1 ∨ w = 2 by omega) with rfl | rfl | rfl
    · rw [if_pos rfl] at i0
      simp only [i0, W_seq, W_skip, W_asg, W_asgT, W_asgN, W_expr, W_ret, W_retn, W_brk, W_cnt, W_if, W_setix, W_par, W_ok, W_bind, kq_nx, kq_rt, kq_bk, kq_ct, iW_t, iW_f, wK_nx, wK_ct, wK_bk, wK_rt, wT_t, wT_f, fK_nx, fK_ct, fK_bk, fK_rt, fT_nm, tW, setT, setT.go, setT.go1, setixQ, parQ, setAll, szl0, szl1, szl2, szl3, szl4, szl5, szl6, szl7, szl8, szl9, szl10, szl11, szl12, szl13, szl14, Option.isSome_some, Option.isNone_none, List.getElem?_cons_zero, List.getElem?_cons_succ, Option.getD_some, ev, evA, evT, evO, gt, st, bind_ok, of_some, valsA, Option.map_some, demL, List.map_cons, List.map_nil, resolveA, List.all_nil, List.all_cons, if_true, Bool.false_eq_true, if_false, selL0, backsTo, op2_add, op2_sub, op2_mul, op2_mod, op2_fdiv, op2_and, addD_i, subD_i, fr_i, fr_b, fr_t, fr_l, fr_s, fr_n, hasd_0, hasd_i, Bool.and_self, Bool.and_true, nofz_i, nofz_b, intB_i, lenB_l, lenB_t, listB_t, tupB_l, maxB_i, cmp_lt, cmp_gt, cmp_ge, cmp_le, cmp_eq, cmp_ne, truthD_b, Option.isNone_some, List.length_map, t1, timD, mD]
      exact ⟨_, _, _, _, d3, _, _, _, rfl, u1, hd4, by omega⟩
    · rw [if_neg (by decide), if_pos rfl] at i0
      simp only [i0, W_seq, W_skip, W_asg, W_asgT, W_asgN, W_expr, W_ret, W_retn, W_brk, W_cnt, W_if, W_setix, W_par, W_ok, W_bind, kq_nx, kq_rt, kq_bk, kq_ct, iW_t, iW_f, wK_nx, wK_ct, wK_bk, wK_rt, wT_t, wT_f, fK_nx, fK_ct, fK_bk, fK_rt, fT_nm, tW, setT, setT.go, setT.go1, setixQ, parQ, setAll, szl0, szl1, szl2, szl3, szl4, szl5, szl6, szl7, szl8, szl9, szl10, szl11, szl12, szl13, szl14, Option.isSome_some, Option.isNone_none, List.getElem?_cons_zero, List.getElem?_cons_succ, Option.getD_some, ev, evA, evT, evO, gt, st, bind_ok, of_some, valsA, Option.map_some, demL, List.map_cons, List.map_nil, resolveA, List.all_nil, List.all_cons, if_true, Bool.false_eq_true, if_false, selL0, backsTo, op2_add, op2_sub, op2_mul, op2_mod, op2_fdiv, op2_and, addD_i, subD_i, fr_i, fr_b, fr_t, fr_l, fr_s, fr_n, hasd_0, hasd_i, Bool.and_self, Bool.and_true, nofz_i, nofz_b, intB_i, lenB_l, lenB_t, listB_t, tupB_l, maxB_i, cmp_lt, cmp_gt, cmp_ge, cmp_le, cmp_eq, cmp_ne, truthD_b, Option.isNone_some, List.length_map, t2, timD, mD]
      exact ⟨_, _, _, _, d3, _, _, _, rfl, u2, hd4, by omega⟩
    · rw [if_neg (by decide), if_neg (by decide)] at i0
      simp only [i0, W_seq, W_skip, W_asg, W_asgT, W_asgN, W_expr, W_ret, W_retn, W_brk, W_cnt, W_if, W_setix, W_par, W_ok, W_bind, kq_nx, kq_rt, kq_bk, kq_ct, iW_t, iW_f, wK_nx, wK_ct, wK_bk, wK_rt, wT_t, wT_f, fK_nx, fK_ct, fK_bk, fK_rt, fT_nm, tW, setT, setT.go, setT.go1, setixQ, parQ, setAll, szl0, szl1, szl2, szl3, szl4, szl5, szl6, szl7, szl8, szl9, szl10, szl11, szl12, szl13, szl14, Option.isSome_some, Option.isNone_none, List.getElem?_cons_zero, List.getElem?_cons_succ, Option.getD_some, ev, evA, evT, evO, gt, st, bind_ok, of_some, valsA, Option.map_some, demL, List.map_cons, List.map_nil, resolveA, List.all_nil, List.all_cons, if_true, Bool.false_eq_true, if_false, selL0, backsTo, op2_add, op2_sub, op2_mul, op2_mod, op2_fdiv, op2_and, addD_i, subD_i, fr_i, fr_b, fr_t, fr_l, fr_s, fr_n, hasd_0, hasd_i, Bool.and_self, Bool.and_true, nofz_i, nofz_b, intB_i, lenB_l, lenB_t, listB_t, tupB_l, maxB_i, cmp_lt, cmp_gt, cmp_ge, cmp_le, cmp_eq, cmp_ne, truthD_b, Option.isNone_some, List.length_map, t3, timD, mD]
      exact ⟨_, _, _, _, d3, _, _, _, rfl, u3, hd4, by omega⟩
  · rintro ρ ⟨g, h, i, j, d', x4, x5, x6, rfl, mb, hd', _⟩
    rw [List.length_map, List.length_range] at mb hd'
    simp only [W_seq, W_skip, W_asg, W_asgT, W_asgN, W_expr, W_ret, W_retn, W_brk, W_cnt, W_if, W_setix, W_par, W_ok, W_bind, kq_nx, kq_rt, kq_bk, kq_ct, iW_t, iW_f, wK_nx, wK_ct, wK_bk, wK_rt, wT_t, wT_f, fK_nx, fK_ct, fK_bk, fK_rt, fT_nm, tW, setT, setT.go, setT.go1, setixQ, parQ, setAll, szl0, szl1, szl2, szl3, szl4, szl5, szl6, szl7, szl8, szl9, szl10, szl11, szl12, szl13, szl14, Option.isSome_some, Option.isNone_none, List.getElem?_cons_zero, List.getElem?_cons_succ, Option.getD_some, ev, evA, evT, evO, gt, st, bind_ok, of_some, valsA, Option.map_some, demL, List.map_cons, List.map_nil, resolveA, List.all_nil, List.all_cons, if_true, Bool.false_eq_true, if_false, selL0, backsTo, op2_add, op2_sub, op2_mul, op2_mod, op2_fdiv, op2_and, addD_i, subD_i, fr_i, fr_b, fr_t, fr_l, fr_s, fr_n, hasd_0, hasd_i, Bool.and_self, Bool.and_true, nofz_i, nofz_b, intB_i, lenB_l, lenB_t, listB_t, tupB_l, maxB_i, cmp_lt, cmp_gt, cmp_ge, cmp_le, cmp_eq, cmp_ne, truthD_b, Option.isNone_some, List.length_map]
    have hB : 1000 ^ r.toNat ≤ 1000 ^ 6 := Nat.pow_le_pow_right (by decide) (by omega)
    exact ⟨g, h, i, j, d', rfl, rfl, ⟨mb.dt, Nat.le_trans mb.g hB, Nat.le_trans mb.h hB, Nat.le_trans mb.i hB, Nat.le_trans mb.j hB⟩, hd'.mono (by omega)⟩
theorem lmat_F {k : Nat} {n many great : Int} {d : D} (hd : DeckOk n d) (hn0 : 0 ≤ n) (hn : n ≤ 10 ^ 14) (h0 : 0 ≤ many) (h6 : many ≤ 6) (g0 : 0 ≤ great) (g1 : great ≤ 999) :
    ∃ g h i j d', callN defs con Fu (k + 2) "_law_matrix" [(d, 2), (.int many, 0), (.int great, 0)] = .ok (mD g h i j, 0) [some (d', 2), none, none] ∧ Mb (1000 ^ 6) g h i j ∧ DeckOk (n + 13) d' := by
  obtain ⟨v, outs, h, g, hh, i, j, d', e1, e2, r1, r2⟩ := callN_W (R := fun v outs => ∃ g h i j d', v = (mD g h i j, 0) ∧ outs = [some (d', 2), none, none] ∧ Mb (1000 ^ 6) g h i j ∧ DeckOk (n + 13) d') (fuel := Fu) (k := k + 1) (con := con) (args := [(d, 2), (.int many, 0), (.int great, 0)]) lk_lmat rfl rfl
    (W_imp (lmat_body draws_ok (fun g h i j k m n o h1 h2 h3 h4 h5 h6 h7 h8 => ltimes_run h1 h2 h3 h4 h5 h6 h7 h8) hd hn0 hn h0 h6 g0 g1) (by
      rintro fl ρ ⟨g, h, i, j, d', rfl, e, r1, r2⟩
      refine ⟨g, h, i, j, d', rfl, ?_, r1, r2⟩
      have : outsOf d__law_matrix ρ = [gt ρ 0, none, none] := rfl
      rw [this, e]))
  subst e1 e2
  exact ⟨g, hh, i, j, d', h, r1, r2⟩
theorem lk_ldm : defs.lookup ("_law_drawn_matrix" : Str) = some d__law_drawn_matrix := by rfl
theorem ldm_F {k : Nat} {n : Int} {d : D} (hd : DeckOk n d) (hn0 : 0 ≤ n) (hn : n ≤ 10 ^ 13) : ∃ g h i j d', callN defs con Fu (k + 3) "_law_drawn_matrix" [(d, 2)] = .ok (mD g h i j, 0) [some (d', 2)] ∧ Mb (1000 ^ 6) g h i j ∧ DeckOk (n + 14) d' := by
  obtain ⟨r, d1, e1, r0, r1, hd1⟩ := draw_F (fuel := Fu) (k := k + 1) (many := 2) hd (by omega) (by decide) (by decide)
  obtain ⟨g, h, i, j, d2, f1, m1, hm1⟩ := lmat_F (k := k) (many := 6) (great := 3) hd1 (by omega) (by omega) (by decide) (by decide) (by decide) (by decide)
  obtain ⟨g', h', i', j', d2', f2, m2, hm2⟩ := lmat_F (k := k) (many := 2) (great := 999) hd1 (by omega) (by omega) (by decide) (by decide) (by decide) (by decide)
  by_cases hr : r = 0
  · refine ⟨g, h, i, j, d2, ?_, m1, hm1.mono (by omega)⟩
    obtain ⟨v, outs, hh, e1', e2'⟩ := callN_W (R := fun v outs => v = (mD g h i j, 0) ∧ outs = [some (d2, 2)]) (fuel := Fu) (k := k + 2) (con := con) (args := [(d, 2)]) (ρ0 := [some (d, 2)]) lk_ldm rfl rfl
      (by
        generalize callN defs con Fu (k + 2) = call at *
        have hb : (r == 0) = true := by simpa using hr
        unfold d__law_drawn_matrix
        simp only [W_seq, W_skip, W_asg, W_asgT, W_asgN, W_expr, W_ret, W_retn, W_brk, W_cnt, W_if, W_setix, W_par, W_ok, W_bind, kq_nx, kq_rt, kq_bk, kq_ct, iW_t, iW_f, wK_nx, wK_ct, wK_bk, wK_rt, wT_t, wT_f, fK_nx, fK_ct, fK_bk, fK_rt, fT_nm, tW, setT, setT.go, setT.go1, setixQ, parQ, setAll, szl0, szl1, szl2, szl3, szl4, szl5, szl6, szl7, szl8, szl9, szl10, szl11, szl12, szl13, szl14, Option.isSome_some, Option.isNone_none, List.getElem?_cons_zero, List.getElem?_cons_succ, Option.getD_some, ev, evA, evT, evO, gt, st, bind_ok, of_some, valsA, Option.map_some, demL, List.map_cons, List.map_nil, resolveA, List.all_nil, List.all_cons, if_true, Bool.false_eq_true, if_false, selL0, backsTo, op2_add, op2_sub, op2_mul, op2_mod, op2_fdiv, op2_and, addD_i, subD_i, fr_i, fr_b, fr_t, fr_l, fr_s, fr_n, hasd_0, hasd_i, Bool.and_self, Bool.and_true, nofz_i, nofz_b, intB_i, lenB_l, lenB_t, listB_t, tupB_l, maxB_i, cmp_lt, cmp_gt, cmp_ge, cmp_le, cmp_eq, cmp_ne, truthD_b, Option.isNone_some, List.length_map, e1, hb, f1]
        exact ⟨trivial, rfl⟩)
    subst e1' e2'
    exact hh
  · refine ⟨g', h', i', j', d2', ?_, m2, hm2.mono (by omega)⟩
    obtain ⟨v, outs, hh, e1', e2'⟩ := callN_W (R := fun v outs => v = (mD g' h' i' j', 0) ∧ outs = [some (d2', 2)]) (fuel := Fu) (k := k + 2) (con := con) (args := [(d, 2)]) (ρ0 := [some (d, 2)]) lk_ldm rfl rfl
      (by
        generalize callN defs con Fu (k + 2) = call at *
        have hb : (r == 0) = false := by simpa using hr
        unfold d__law_drawn_matrix
        simp only [W_seq, W_skip, W_asg, W_asgT, W_asgN, W_expr, W_ret, W_retn, W_brk, W_cnt, W_if, W_setix, W_par, W_ok, W_bind, kq_nx, kq_rt, kq_bk, kq_ct, iW_t, iW_f, wK_nx, wK_ct, wK_bk, wK_rt, wT_t, wT_f, fK_nx, fK_ct, fK_bk, fK_rt, fT_nm, tW, setT, setT.go, setT.go1, setixQ, parQ, setAll, szl0, szl1, szl2, szl3, szl4, szl5, szl6, szl7, szl8, szl9, szl10, szl11, szl12, szl13, szl14, Option.isSome_some, Option.isNone_none, List.getElem?_cons_zero, List.getElem?_cons_succ, Option.getD_some, ev, evA, evT, evO, gt, st, bind_ok, of_some, valsA, Option.map_some, demL, List.map_cons, List.map_nil, resolveA, List.all_nil, List.all_cons, if_true, Bool.false_eq_true, if_false, selL0, backsTo, op2_add, op2_sub, op2_mul, op2_mod, op2_fdiv, op2_and, addD_i, subD_i, fr_i, fr_b, fr_t, fr_l, fr_s, fr_n, hasd_0, hasd_i, Bool.and_self, Bool.and_true, nofz_i, nofz_b, intB_i, lenB_l, lenB_t, listB_t, tupB_l, maxB_i, cmp_lt, cmp_gt, cmp_ge, cmp_le, cmp_eq, cmp_ne, truthD_b, Option.isNone_some, List.length_map, e1, hb, f2]
        exact ⟨trivial, rfl⟩)
    subst e1' e2'
    exact hh
/-! ### integers -/
theorem lk_lint : defs.lookup ("_law_integer" : Str) = some d__law_integer := by rfl
theorem lint_F {k : Nat} {n : Int} {d : D} (hd : DeckOk n d) (hn0 : 0 ≤ n) (hn : n ≤ 10 ^ 13) : ∃ x d', callN defs con Fu (k + 3) "_law_integer" [(d, 2)] = .ok (.int x, 0) [some (d', 2)] ∧ Sz 50 x ∧ DeckOk (n + 4) d' := by
  obtain ⟨x1, d1, e1, hx1, hd1⟩ := pick_F (fuel := Fu) (k := k) (n := 0) (b := true) (l := [.int 3, .int 20, .int 1000, .int (10 ^ 6)]) hd (by omega) (by decide) (by decide)
  have hx1' : ∃ m : Int, x1 = .int m ∧ 0 < m ∧ m ≤ 10 ^ 6 := by
    simp only [List.mem_cons, List.not_mem_nil, or_false] at hx1
    rcases hx1 with rfl | rfl | rfl | rfl <;> exact ⟨_, rfl, by decide, by decide⟩
  obtain ⟨m, rfl, m0, m1⟩ := hx1'
  obtain ⟨r, d2, e2, r0, r1, hd2⟩ := draw_F (fuel := Fu) (k := k + 1) (many := m) hd1 (by omega) m0 (by omega)
  obtain ⟨x3, d3, e3, hx3, hd3⟩ := pick_F (fuel := Fu) (k := k) (n := 0) (b := true) (l := [.int 1, .int 1, .int (10 ^ 6 + 3)]) hd2 (by omega) (by decide) (by decide)
  have hx3' : ∃ q : Int, x3 = .int q ∧ 0 < q ∧ q ≤ 10 ^ 6 + 3 := by
    simp only [List.mem_cons, List.not_mem_nil, or_false] at hx3
    rcases hx3 with rfl | rfl | rfl <;> exact ⟨_, rfl, by decide, by decide⟩
  obtain ⟨q, rfl, q0, q1⟩ := hx3'
  obtain ⟨s, d4, e4, s0, s1, hd4⟩ := draw_F (fuel := Fu) (k := k + 1) (many := 2) hd3 (by omega) (by decide) (by decide)
  have hm : mulOk r q = true := mulOk_small (by omega)
  have hrq : (r * q).natAbs ≤ 10 ^ 6 * (10 ^ 6 + 3) := ab_mul (by omega) (by omega)
  simp only [seqD, if_true] at e1 e3
  by_cases hs : s = 0
  · refine ⟨r * q, d4, ?_, Nat.lt_of_le_of_lt hrq (by decide), hd4.mono (by omega)⟩
    obtain ⟨v, outs, hh, e1', e2'⟩ := callN_W (R := fun v outs => v = (.int (r * q), 0) ∧ outs = [some (d4, 2)]) (fuel := Fu) (k := k + 2) (con := con) (args := [(d, 2)]) (ρ0 := [some (d, 2), none]) lk_lint rfl rfl
      (by
        generalize callN defs con Fu (k + 2) = call at *
        have hb : (s == 0) = true := by simpa using hs
        unfold d__law_integer
        simp only [W_seq, W_skip, W_asg, W_asgT, W_asgN, W_expr, W_ret, W_retn, W_brk, W_cnt, W_if, W_setix, W_par, W_ok, W_bind, kq_nx, kq_rt, kq_bk, kq_ct, iW_t, iW_f, wK_nx, wK_ct, wK_bk, wK_rt, wT_t, wT_f, fK_nx, fK_ct, fK_bk, fK_rt, fT_nm, tW, setT, setT.go, setT.go1, setixQ, parQ, setAll, szl0, szl1, szl2, szl3, szl4, szl5, szl6, szl7, szl8, szl9, szl10, szl11, szl12, szl13, szl14, Option.isSome_some, Option.isNone_none, List.getElem?_cons_zero, List.getElem?_cons_succ, Option.getD_some, ev, evA, evT, evO, gt, st, bind_ok, of_some, valsA, Option.map_some, demL, List.map_cons, List.map_nil, resolveA, List.all_nil, List.all_cons, if_true, Bool.false_eq_true, if_false, selL0, backsTo, op2_add, op2_sub, op2_mul, op2_mod, op2_fdiv, op2_and, addD_i, subD_i, fr_i, fr_b, fr_t, fr_l, fr_s, fr_n, hasd_0, hasd_i, Bool.and_self, Bool.and_true, nofz_i, nofz_b, intB_i, lenB_l, lenB_t, listB_t, tupB_l, maxB_i, cmp_lt, cmp_gt, cmp_ge, cmp_le, cmp_eq, cmp_ne, truthD_b, Option.isNone_some, List.length_map, pow6, e1, e2, e3, mulD_i hm, e4, hb]
        exact ⟨trivial, rfl⟩)
    subst e1' e2'
    exact hh
  · refine ⟨0 - r * q, d4, ?_, by unfold Sz; rw [Int.zero_sub, Int.natAbs_neg]; exact Nat.lt_of_le_of_lt hrq (by decide), hd4.mono (by omega)⟩
    obtain ⟨v, outs, hh, e1', e2'⟩ := callN_W (R := fun v outs => v = (.int (0 - r * q), 0) ∧ outs = [some (d4, 2)]) (fuel := Fu) (k := k + 2) (con := con) (args := [(d, 2)]) (ρ0 := [some (d, 2), none]) lk_lint rfl rfl
      (by
        generalize callN defs con Fu (k + 2) = call at *
        have hb : (s == 0) = false := by simpa using hs
        unfold d__law_integer
        simp only [W_seq, W_skip, W_asg, W_asgT, W_asgN, W_expr, W_ret, W_retn, W_brk, W_cnt, W_if, W_setix, W_par, W_ok, W_bind, kq_nx, kq_rt, kq_bk, kq_ct, iW_t, iW_f, wK_nx, wK_ct, wK_bk, wK_rt, wT_t, wT_f, fK_nx, fK_ct, fK_bk, fK_rt, fT_nm, tW, setT, setT.go, setT.go1, setixQ, parQ, setAll, szl0, szl1, szl2, szl3, szl4, szl5, szl6, szl7, szl8, szl9, szl10, szl11, szl12, szl13, szl14, Option.isSome_some, Option.isNone_none, List.getElem?_cons_zero, List.getElem?_cons_succ, Option.getD_some, ev, evA, evT, evO, gt, st, bind_ok, of_some, valsA, Option.map_some, demL, List.map_cons, List.map_nil, resolveA, List.all_nil, List.all_cons, if_true, Bool.false_eq_true, if_false, selL0, backsTo, op2_add, op2_sub, op2_mul, op2_mod, op2_fdiv, op2_and, addD_i, subD_i, fr_i, fr_b, fr_t, fr_l, fr_s, fr_n, hasd_0, hasd_i, Bool.and_self, Bool.and_true, nofz_i, nofz_b, intB_i, lenB_l, lenB_t, listB_t, tupB_l, maxB_i, cmp_lt, cmp_gt, cmp_ge, cmp_le, cmp_eq, cmp_ne, truthD_b, Option.isNone_some, List.length_map, pow6, e1, e2, e3, mulD_i hm, e4, hb]
        exact ⟨trivial, rfl⟩)
    subst e1' e2'
    exact hh
end Pi.K37
/-! K37i: all reduced forms, by the law -/
namespace Pi.K37
open PySem L2 Pi.Fm
theorem lk_lcls : defs.lookup ("_law_classes" : Str) = some d__law_classes := by rfl
theorem knd_l {l : List D} {n : Nat} : (kndD (some (.lst l, n)) != mmK .append) = false := rfl
theorem app_T {L : List (List Int)} {t : List Int} (h : L.length < sizeLine) : mutD .append (.lst (L.map tupI)) (0 + 1) [(tupI t, 0)] = some ((.non, 0), .lst ((L ++ [t]).map tupI)) := by
  have h' : (L.map tupI).length < sizeLine := by simpa using h
  simp only [mutD, decide_eq_true h', hasd_0, Bool.and_self, if_true, List.map_append, List.map_cons, List.map_nil, Nat.add_sub_cancel]
theorem isTI_map : ∀ (L : List (List Int)), (∀ t ∈ L, t ≠ []) → isTI (L.map tupI) = some L
  | [], _ => rfl
  | t :: L, h => by
    have h1 := isTI_map L fun u m => h u (List.mem_cons_of_mem _ m)
    have h2 := h t (List.mem_cons_self ..)
    have h3 : ∀ l : List Int, isInts (l.map D.int) = some l := by
      intro l
      induction l with
      | nil => rfl
      | cons x l ih => simp only [List.map_cons, isInts, ih, Option.map_some]
    cases t with
    | nil => exact absurd rfl h2
    | cons x t => simp only [List.map_cons, tupI, isTI, h1, isInts, h3, Option.map_some]
theorem sorted_T {L : List (List Int)} (h0 : L ≠ []) (h : ∀ t ∈ L, t ≠ []) : bltD .sorted [.lst (L.map tupI)] = some (.lst ((sortT L).map tupI)) := by
  have h1 : isInts (L.map tupI) = none := by
    cases L with
    | nil => exact absurd rfl h0
    | cons t L => rfl
  show sortedB (.lst (L.map tupI)) = _
  simp only [sortedB, h1, isTI_map L h, Option.map_some]
theorem neg_sub (b : Int) : 0 - b = -b := by omega
/-- one turn of the inner loop -/
theorem inner {cf : Cf} {D b : Int} {L : List (List Int)} {Q : Fl → Env → Prop} (hf : cf.fuel = Fu) (hg : ∀ x y : Int, y.natAbs < Fu → cf.call "_law_gcd" [(.int x, 0), (.int y, 0)] = .ok (.int (Int.gcd x y : Int), 0) [none, none])
    (hD : D % 4 = 0 ∨ D % 4 = 1) (hD0 : -20000 ≤ D) (hD1 : D ≤ -3) (hb : b % 2 = D % 2) (hb0 : 0 ≤ b) (hb1 : 3 * b * b ≤ -D) (hL : Fnd D b (if b > 1 then b else 1) L) (hlen : (L.length : Int) ≤ 200 * b)
    (hQ : ∀ L' a', Fnd D (b + 2) 0 L' → (L'.length : Int) ≤ 200 * (b + 2) → Q .nx [some (.int D, 0), some (.lst (L'.map tupI), 1), some (.int b, 0), some (.int ((b * b - D) / 4), 0), some (.int a', 0)]) :
    (exec cf (.whl (.tcmp .LtE (.op2 .Mult (.var 4) (.var 4)) (.var 3))
    (.seq (.ifs (.tand (.tcmp .Eq (.op2 .Mod (.blt .int (.cons (.var 3) .nil)) (.var 4)) (.int 0)) (.tcmp .Eq (.call "_law_gcd" (.cons (.call "_law_gcd" (.cons (.var 4) (.cons (.var 2) .nil)) [] []) (.cons (.op2 .FloorDiv (.var 3) (.var 4)) .nil)) [] []) (.int 1)))
    (.seq (.expr (.mutv .append 1 (.cons (.tup 0 (.cons (.var 4) (.cons (.var 2) (.cons (.op2 .FloorDiv (.var 3) (.var 4)) .nil)))) .nil)))
    (.ifs (.tchain3 .Lt .Lt .Lt (.int 0) (.var 2) (.var 4) (.op2 .FloorDiv (.var 3) (.var 4)))
    (.expr (.mutv .append 1 (.cons (.tup 0 (.cons (.var 4) (.cons (.op2 .Sub (.int 0) (.var 2)) (.cons (.op2 .FloorDiv (.var 3) (.var 4)) .nil)))) .nil)))
    .skip))
    .skip)
    (.asg (.nm 4) (.op2 .Add (.var 4) (.int 1))))) [some (.int D, 0), some (.lst (L.map tupI), 1), some (.int b, 0), some (.int ((b * b - D) / 4), 0), some (.int (if b > 1 then b else 1), 0)]).W Q := by
  have hbb : b ≤ 81 := by
    rcases Int.lt_or_le 81 b with h | h
    · have := Int.mul_le_mul (show (82 : Int) ≤ b by omega) (show (82 : Int) ≤ b by omega) (by omega) (by omega)
      have e : 3 * b * b = 3 * (b * b) := by grind
      omega
    · exact h
  have hbs : b * b ≤ 6667 := by
    have e : 3 * b * b = 3 * (b * b) := by grind
    omega
  have hbs0 := sq_nonneg b
  have hP : (b * b - D) / 4 ≤ 6667 := by omega
  have hP0 : 0 ≤ (b * b - D) / 4 := by omega
  refine W_whl (fun m ρ => ∃ (a : Int) (L' : List (List Int)), ρ = [some (.int D, 0), some (.lst (L'.map tupI), 1), some (.int b, 0), some (.int ((b * b - D) / 4), 0), some (.int a, 0)] ∧ 1 ≤ a ∧ b ≤ a ∧ a ≤ 82 ∧ Fnd D b a L' ∧ (L'.length : Int) ≤ 200 * b + 2 * a ∧ m = (100 - a).toNat)
    _ ⟨_, L, rfl, by split <;> omega, by split <;> omega, by split <;> omega, hL, by split <;> omega, rfl⟩ (by rw [hf]; unfold Fu; split <;> omega) ?_
  rintro m ρ ⟨a, L', rfl, ha1, hba, ha82, F, hl, rfl⟩
  have hl2 : L'.length < sizeLine := by rw [show sizeLine = 16777216 by decide]; omega
  have hl3 : ∀ t : List Int, (L' ++ [t]).length < sizeLine := fun t => by rw [show sizeLine = 16777216 by decide]; simp; omega
  have maa : mulOk a a = true := mulOk_small (by omega)
  have da : divOk a = true := by simp only [divOk, Bool.and_eq_true, Bool.or_eq_true, decide_eq_true_eq]; omega
  simp only [W_seq, W_skip, W_asg, W_asgT, W_asgN, W_expr, W_ret, W_retn, W_brk, W_cnt, W_if, W_setix, W_par, W_ok, W_bind, kq_nx, kq_rt, kq_bk, kq_ct, iW_t, iW_f, wK_nx, wK_ct, wK_bk, wK_rt, wT_t, wT_f, fK_nx, fK_ct, fK_bk, fK_rt, fT_nm, tW, setT, setT.go, setT.go1, setixQ, parQ, setAll, szl0, szl1, szl2, szl3, szl4, szl5, szl6, szl7, szl8, szl9, szl10, szl11, szl12, szl13, szl14, Option.isSome_some, Option.isNone_none, List.getElem?_cons_zero, List.getElem?_cons_succ, Option.getD_some, ev, evA, evT, evO, gt, st, bind_ok, of_some, valsA, Option.map_some, demL, List.map_cons, List.map_nil, resolveA, List.all_nil, List.all_cons, if_true, Bool.false_eq_true, if_false, selL0, backsTo, op2_add, op2_sub, op2_mul, op2_mod, op2_fdiv, op2_and, addD_i, subD_i, fr_i, fr_b, fr_t, fr_l, fr_s, fr_n, hasd_0, hasd_i, Bool.and_self, Bool.and_true, nofz_i, nofz_b, intB_i, lenB_l, lenB_t, listB_t, tupB_l, maxB_i, cmp_lt, cmp_gt, cmp_ge, cmp_le, cmp_eq, cmp_ne, truthD_b, Option.isNone_some, List.length_map, mulD_i maa]
  by_cases hP2 : a * a ≤ (b * b - D) / 4
  · have ha81 : a ≤ 81 := by
      rcases Int.lt_or_le 81 a with h | h
      · have := Int.mul_le_mul (show (82 : Int) ≤ a by omega) (show (82 : Int) ≤ a by omega) (by omega) (by omega)
        omega
      · exact h
    simp only [decide_eq_true hP2, W_seq, W_skip, W_asg, W_asgT, W_asgN, W_expr, W_ret, W_retn, W_brk, W_cnt, W_if, W_setix, W_par, W_ok, W_bind, kq_nx, kq_rt, kq_bk, kq_ct, iW_t, iW_f, wK_nx, wK_ct, wK_bk, wK_rt, wT_t, wT_f, fK_nx, fK_ct, fK_bk, fK_rt, fT_nm, tW, setT, setT.go, setT.go1, setixQ, parQ, setAll, szl0, szl1, szl2, szl3, szl4, szl5, szl6, szl7, szl8, szl9, szl10, szl11, szl12, szl13, szl14, Option.isSome_some, Option.isNone_none, List.getElem?_cons_zero, List.getElem?_cons_succ, Option.getD_some, ev, evA, evT, evO, gt, st, bind_ok, of_some, valsA, Option.map_some, demL, List.map_cons, List.map_nil, resolveA, List.all_nil, List.all_cons, if_true, Bool.false_eq_true, if_false, selL0, backsTo, op2_add, op2_sub, op2_mul, op2_mod, op2_fdiv, op2_and, addD_i, subD_i, fr_i, fr_b, fr_t, fr_l, fr_s, fr_n, hasd_0, hasd_i, Bool.and_self, Bool.and_true, nofz_i, nofz_b, intB_i, lenB_l, lenB_t, listB_t, tupB_l, maxB_i, cmp_lt, cmp_gt, cmp_ge, cmp_le, cmp_eq, cmp_ne, truthD_b, Option.isNone_some, List.length_map, modD_i (show (0 : Int) < a by omega)]
    have huniq : ∀ β c, CF D a β c → (β.natAbs : Int) = b → (b * b - D) / 4 = a * c ∧ (b * b - D) / 4 % a = 0 ∧ (b * b - D) / 4 / a = c ∧ (β < 0 → b < a ∧ a < c) := fun β c h e => by
      obtain ⟨q1, q2, q3, q4⟩ := of_cf h
      rw [e] at q1 q4
      rw [q1]
      exact ⟨rfl, q2, q3, q4⟩
    by_cases hm : (b * b - D) / 4 % a = 0
    · have hmb : ((b * b - D) / 4 % a == 0) = true := by rw [hm]; rfl
      have hq0 : 0 ≤ (b * b - D) / 4 / a := Int.ediv_nonneg hP0 (by omega)
      have hq1 : (b * b - D) / 4 / a ≤ 6667 := Int.le_trans (Int.ediv_le_self _ hP0) hP
      have g1 := hg a b (by unfold Fu; omega)
      have g2 := hg (Int.gcd a b : Int) ((b * b - D) / 4 / a) (by unfold Fu; omega)
      simp only [hmb, W_seq, W_skip, W_asg, W_asgT, W_asgN, W_expr, W_ret, W_retn, W_brk, W_cnt, W_if, W_setix, W_par, W_ok, W_bind, kq_nx, kq_rt, kq_bk, kq_ct, iW_t, iW_f, wK_nx, wK_ct, wK_bk, wK_rt, wT_t, wT_f, fK_nx, fK_ct, fK_bk, fK_rt, fT_nm, tW, setT, setT.go, setT.go1, setixQ, parQ, setAll, szl0, szl1, szl2, szl3, szl4, szl5, szl6, szl7, szl8, szl9, szl10, szl11, szl12, szl13, szl14, Option.isSome_some, Option.isNone_none, List.getElem?_cons_zero, List.getElem?_cons_succ, Option.getD_some, ev, evA, evT, evO, gt, st, bind_ok, of_some, valsA, Option.map_some, demL, List.map_cons, List.map_nil, resolveA, List.all_nil, List.all_cons, if_true, Bool.false_eq_true, if_false, selL0, backsTo, op2_add, op2_sub, op2_mul, op2_mod, op2_fdiv, op2_and, addD_i, subD_i, fr_i, fr_b, fr_t, fr_l, fr_s, fr_n, hasd_0, hasd_i, Bool.and_self, Bool.and_true, nofz_i, nofz_b, intB_i, lenB_l, lenB_t, listB_t, tupB_l, maxB_i, cmp_lt, cmp_gt, cmp_ge, cmp_le, cmp_eq, cmp_ne, truthD_b, Option.isNone_some, List.length_map, fdivD_i da, g1, g2]
      by_cases hgc : gc a b ((b * b - D) / 4 / a) = 1
      · have hgb : ((Int.gcd (Int.gcd a b : Int) ((b * b - D) / 4 / a) : Int) == 1) = true := by
          have : (Int.gcd (Int.gcd a b : Int) ((b * b - D) / 4 / a)) = 1 := hgc
          rw [this]; rfl
        obtain ⟨c1, c2⟩ := cf_of hD hb hb0 hba ha1 hP2 hm hgc
        have a1 := app_T (t := [a, b, (b * b - D) / 4 / a]) hl2
        have a2 := app_T (L := L' ++ [[a, b, (b * b - D) / 4 / a]]) (t := [a, -b, (b * b - D) / 4 / a]) (hl3 _)
        simp only [tupI, List.map_cons, List.map_nil] at a1 a2
        have a1' : mutD .append (.lst (L'.map tupI)) (0 + 1) [(.tup [.int a, .int b, .int ((b * b - D) / 4 / a)], 0)] = some ((.non, 0), .lst ((L' ++ [[a, b, (b * b - D) / 4 / a]]).map tupI)) := a1
        have a2' : mutD .append (.lst ((L' ++ [[a, b, (b * b - D) / 4 / a]]).map tupI)) (0 + 1) [(.tup [.int a, .int (-b), .int ((b * b - D) / 4 / a)], 0)] = some ((.non, 0), .lst ((L' ++ [[a, b, (b * b - D) / 4 / a]] ++ [[a, -b, (b * b - D) / 4 / a]]).map tupI)) := a2
        simp only [hgb, W_seq, W_skip, W_asg, W_asgT, W_asgN, W_expr, W_ret, W_retn, W_brk, W_cnt, W_if, W_setix, W_par, W_ok, W_bind, kq_nx, kq_rt, kq_bk, kq_ct, iW_t, iW_f, wK_nx, wK_ct, wK_bk, wK_rt, wT_t, wT_f, fK_nx, fK_ct, fK_bk, fK_rt, fT_nm, tW, setT, setT.go, setT.go1, setixQ, parQ, setAll, szl0, szl1, szl2, szl3, szl4, szl5, szl6, szl7, szl8, szl9, szl10, szl11, szl12, szl13, szl14, Option.isSome_some, Option.isNone_none, List.getElem?_cons_zero, List.getElem?_cons_succ, Option.getD_some, ev, evA, evT, evO, gt, st, bind_ok, of_some, valsA, Option.map_some, demL, List.map_cons, List.map_nil, resolveA, List.all_nil, List.all_cons, if_true, Bool.false_eq_true, if_false, selL0, backsTo, op2_add, op2_sub, op2_mul, op2_mod, op2_fdiv, op2_and, addD_i, subD_i, fr_i, fr_b, fr_t, fr_l, fr_s, fr_n, hasd_0, hasd_i, Bool.and_self, Bool.and_true, nofz_i, nofz_b, intB_i, lenB_l, lenB_t, listB_t, tupB_l, maxB_i, cmp_lt, cmp_gt, cmp_ge, cmp_le, cmp_eq, cmp_ne, truthD_b, Option.isNone_some, List.length_map, knd_l, fdivD_i da, a1']
        by_cases h3 : 0 < b ∧ b < a ∧ a < (b * b - D) / 4 / a
        · simp only [decide_eq_true h3.1, decide_eq_true h3.2.1, decide_eq_true h3.2.2, W_seq, W_skip, W_asg, W_asgT, W_asgN, W_expr, W_ret, W_retn, W_brk, W_cnt, W_if, W_setix, W_par, W_ok, W_bind, kq_nx, kq_rt, kq_bk, kq_ct, iW_t, iW_f, wK_nx, wK_ct, wK_bk, wK_rt, wT_t, wT_f, fK_nx, fK_ct, fK_bk, fK_rt, fT_nm, tW, setT, setT.go, setT.go1, setixQ, parQ, setAll, szl0, szl1, szl2, szl3, szl4, szl5, szl6, szl7, szl8, szl9, szl10, szl11, szl12, szl13, szl14, Option.isSome_some, Option.isNone_none, List.getElem?_cons_zero, List.getElem?_cons_succ, Option.getD_some, ev, evA, evT, evO, gt, st, bind_ok, of_some, valsA, Option.map_some, demL, List.map_cons, List.map_nil, resolveA, List.all_nil, List.all_cons, if_true, Bool.false_eq_true, if_false, selL0, backsTo, op2_add, op2_sub, op2_mul, op2_mod, op2_fdiv, op2_and, addD_i, subD_i, fr_i, fr_b, fr_t, fr_l, fr_s, fr_n, hasd_0, hasd_i, Bool.and_self, Bool.and_true, nofz_i, nofz_b, intB_i, lenB_l, lenB_t, listB_t, tupB_l, maxB_i, cmp_lt, cmp_gt, cmp_ge, cmp_le, cmp_eq, cmp_ne, truthD_b, Option.isNone_some, List.length_map, knd_l, fdivD_i da, neg_sub, a2']
          refine ⟨_, ?_, a + 1, _, rfl, by omega, by omega, by omega, F.two h3.1 c1 (c2 h3.1 h3.2.1 h3.2.2) (fun β c h e => ((huniq β c h e).2.2.1).symm), ?_, rfl⟩
          · omega
          · simp; omega
        · have fin : wK (fun m ρ => ∃ (a : Int) (L' : List (List Int)), ρ = [some (.int D, 0), some (.lst (L'.map tupI), 1), some (.int b, 0), some (.int ((b * b - D) / 4), 0), some (.int a, 0)] ∧ 1 ≤ a ∧ b ≤ a ∧ a ≤ 82 ∧ Fnd D b a L' ∧ (L'.length : Int) ≤ 200 * b + 2 * a ∧ m = (100 - a).toNat) (100 - a).toNat Q .nx [some (.int D, 0), some (.lst ((L' ++ [[a, b, (b * b - D) / 4 / a]]).map tupI), 1), some (.int b, 0), some (.int ((b * b - D) / 4), 0), some (.int (a + 1), 0)] := by
            rw [wK_nx]
            refine ⟨_, ?_, a + 1, _, rfl, by omega, by omega, by omega, F.one hb0 c1 (fun β c h e => ?_), ?_, rfl⟩
            · omega
            · obtain ⟨q1, q2, q3, q4⟩ := huniq β c h e
              refine ⟨?_, q3.symm⟩
              have h5 := h.red.eq
              by_cases hn : β < 0
              · have := q4 hn
                rw [q3] at h3
                omega
              · omega
            · simp; omega
          by_cases p1 : 0 < b
          · by_cases p2 : b < a
            · have p3 : ¬ (a < (b * b - D) / 4 / a) := fun h => h3 ⟨p1, p2, h⟩
              simp only [decide_eq_true p1, decide_eq_true p2, decide_eq_false p3, W_seq, W_skip, W_asg, W_asgT, W_asgN, W_expr, W_ret, W_retn, W_brk, W_cnt, W_if, W_setix, W_par, W_ok, W_bind, kq_nx, kq_rt, kq_bk, kq_ct, iW_t, iW_f, wK_nx, wK_ct, wK_bk, wK_rt, wT_t, wT_f, fK_nx, fK_ct, fK_bk, fK_rt, fT_nm, tW, setT, setT.go, setT.go1, setixQ, parQ, setAll, szl0, szl1, szl2, szl3, szl4, szl5, szl6, szl7, szl8, szl9, szl10, szl11, szl12, szl13, szl14, Option.isSome_some, Option.isNone_none, List.getElem?_cons_zero, List.getElem?_cons_succ, Option.getD_some, ev, evA, evT, evO, gt, st, bind_ok, of_some, valsA, Option.map_some, demL, List.map_cons, List.map_nil, resolveA, List.all_nil, List.all_cons, if_true, Bool.false_eq_true, if_false, selL0, backsTo, op2_add, op2_sub, op2_mul, op2_mod, op2_fdiv, op2_and, addD_i, subD_i, fr_i, fr_b, fr_t, fr_l, fr_s, fr_n, hasd_0, hasd_i, Bool.and_self, Bool.and_true, nofz_i, nofz_b, intB_i, lenB_l, lenB_t, listB_t, tupB_l, maxB_i, cmp_lt, cmp_gt, cmp_ge, cmp_le, cmp_eq, cmp_ne, truthD_b, Option.isNone_some, List.length_map, fdivD_i da]
              exact fin
            · simp only [decide_eq_true p1, decide_eq_false p2, W_seq, W_skip, W_asg, W_asgT, W_asgN, W_expr, W_ret, W_retn, W_brk, W_cnt, W_if, W_setix, W_par, W_ok, W_bind, kq_nx, kq_rt, kq_bk, kq_ct, iW_t, iW_f, wK_nx, wK_ct, wK_bk, wK_rt, wT_t, wT_f, fK_nx, fK_ct, fK_bk, fK_rt, fT_nm, tW, setT, setT.go, setT.go1, setixQ, parQ, setAll, szl0, szl1, szl2, szl3, szl4, szl5, szl6, szl7, szl8, szl9, szl10, szl11, szl12, szl13, szl14, Option.isSome_some, Option.isNone_none, List.getElem?_cons_zero, List.getElem?_cons_succ, Option.getD_some, ev, evA, evT, evO, gt, st, bind_ok, of_some, valsA, Option.map_some, demL, List.map_cons, List.map_nil, resolveA, List.all_nil, List.all_cons, if_true, Bool.false_eq_true, if_false, selL0, backsTo, op2_add, op2_sub, op2_mul, op2_mod, op2_fdiv, op2_and, addD_i, subD_i, fr_i, fr_b, fr_t, fr_l, fr_s, fr_n, hasd_0, hasd_i, Bool.and_self, Bool.and_true, nofz_i, nofz_b, intB_i, lenB_l, lenB_t, listB_t, tupB_l, maxB_i, cmp_lt, cmp_gt, cmp_ge, cmp_le, cmp_eq, cmp_ne, truthD_b, Option.isNone_some, List.length_map]
              exact fin
          · simp only [decide_eq_false p1, W_seq, W_skip, W_asg, W_asgT, W_asgN, W_expr, W_ret, W_retn, W_brk, W_cnt, W_if, W_setix, W_par, W_ok, W_bind, kq_nx, kq_rt, kq_bk, kq_ct, iW_t, iW_f, wK_nx, wK_ct, wK_bk, wK_rt, wT_t, wT_f, fK_nx, fK_ct, fK_bk, fK_rt, fT_nm, tW, setT, setT.go, setT.go1, setixQ, parQ, setAll, szl0, szl1, szl2, szl3, szl4, szl5, szl6, szl7, szl8, szl9, szl10, szl11, szl12, szl13, szl14, Option.isSome_some, Option.isNone_none, List.getElem?_cons_zero, List.getElem?_cons_succ, Option.getD_some, ev, evA, evT, evO, gt, st, bind_ok, of_some, valsA, Option.map_some, demL, List.map_cons, List.map_nil, resolveA, List.all_nil, List.all_cons, if_true, Bool.false_eq_true, if_false, selL0, backsTo, op2_add, op2_sub, op2_mul, op2_mod, op2_fdiv, op2_and, addD_i, subD_i, fr_i, fr_b, fr_t, fr_l, fr_s, fr_n, hasd_0, hasd_i, Bool.and_self, Bool.and_true, nofz_i, nofz_b, intB_i, lenB_l, lenB_t, listB_t, tupB_l, maxB_i, cmp_lt, cmp_gt, cmp_ge, cmp_le, cmp_eq, cmp_ne, truthD_b, Option.isNone_some, List.length_map]
            exact fin
      · have hgb : ((Int.gcd (Int.gcd a b : Int) ((b * b - D) / 4 / a) : Int) == 1) = false := by
          have h : ¬ (Int.gcd (Int.gcd a b : Int) ((b * b - D) / 4 / a)) = 1 := hgc
          simp only [beq_eq_false_iff_ne]; omega
        simp only [hgb, W_seq, W_skip, W_asg, W_asgT, W_asgN, W_expr, W_ret, W_retn, W_brk, W_cnt, W_if, W_setix, W_par, W_ok, W_bind, kq_nx, kq_rt, kq_bk, kq_ct, iW_t, iW_f, wK_nx, wK_ct, wK_bk, wK_rt, wT_t, wT_f, fK_nx, fK_ct, fK_bk, fK_rt, fT_nm, tW, setT, setT.go, setT.go1, setixQ, parQ, setAll, szl0, szl1, szl2, szl3, szl4, szl5, szl6, szl7, szl8, szl9, szl10, szl11, szl12, szl13, szl14, Option.isSome_some, Option.isNone_none, List.getElem?_cons_zero, List.getElem?_cons_succ, Option.getD_some, ev, evA, evT, evO, gt, st, bind_ok, of_some, valsA, Option.map_some, demL, List.map_cons, List.map_nil, resolveA, List.all_nil, List.all_cons, if_true, Bool.false_eq_true, if_false, selL0, backsTo, op2_add, op2_sub, op2_mul, op2_mod, op2_fdiv, op2_and, addD_i, subD_i, fr_i, fr_b, fr_t, fr_l, fr_s, fr_n, hasd_0, hasd_i, Bool.and_self, Bool.and_true, nofz_i, nofz_b, intB_i, lenB_l, lenB_t, listB_t, tupB_l, maxB_i, cmp_lt, cmp_gt, cmp_ge, cmp_le, cmp_eq, cmp_ne, truthD_b, Option.isNone_some, List.length_map]
        refine ⟨_, ?_, a + 1, L', rfl, by omega, by omega, by omega, F.skip fun β c h e => ?_, by omega, rfl⟩
        · omega
        · obtain ⟨q1, q2, q3, q4⟩ := huniq β c h e
          have hp := h.pr
          rw [q3] at hgc
          have : gc a b c = gc a β c := by
            rcases (show β = b ∨ β = -b by omega) with rfl | rfl
            · rfl
            · exact gc_neg.symm
          omega
    · have hmb : ((b * b - D) / 4 % a == 0) = false := by simpa using hm
      simp only [hmb, W_seq, W_skip, W_asg, W_asgT, W_asgN, W_expr, W_ret, W_retn, W_brk, W_cnt, W_if, W_setix, W_par, W_ok, W_bind, kq_nx, kq_rt, kq_bk, kq_ct, iW_t, iW_f, wK_nx, wK_ct, wK_bk, wK_rt, wT_t, wT_f, fK_nx, fK_ct, fK_bk, fK_rt, fT_nm, tW, setT, setT.go, setT.go1, setixQ, parQ, setAll, szl0, szl1, szl2, szl3, szl4, szl5, szl6, szl7, szl8, szl9, szl10, szl11, szl12, szl13, szl14, Option.isSome_some, Option.isNone_none, List.getElem?_cons_zero, List.getElem?_cons_succ, Option.getD_some, ev, evA, evT, evO, gt, st, bind_ok, of_some, valsA, Option.map_some, demL, List.map_cons, List.map_nil, resolveA, List.all_nil, List.all_cons, if_true, Bool.false_eq_true, if_false, selL0, backsTo, op2_add, op2_sub, op2_mul, op2_mod, op2_fdiv, op2_and, addD_i, subD_i, fr_i, fr_b, fr_t, fr_l, fr_s, fr_n, hasd_0, hasd_i, Bool.and_self, Bool.and_true, nofz_i, nofz_b, intB_i, lenB_l, lenB_t, listB_t, tupB_l, maxB_i, cmp_lt, cmp_gt, cmp_ge, cmp_le, cmp_eq, cmp_ne, truthD_b, Option.isNone_some, List.length_map]
      refine ⟨_, ?_, a + 1, L', rfl, by omega, by omega, by omega, F.skip fun β c h e => hm (huniq β c h e).2.1, by omega, rfl⟩
      omega
  · simp only [decide_eq_false hP2, W_seq, W_skip, W_asg, W_asgT, W_asgN, W_expr, W_ret, W_retn, W_brk, W_cnt, W_if, W_setix, W_par, W_ok, W_bind, kq_nx, kq_rt, kq_bk, kq_ct, iW_t, iW_f, wK_nx, wK_ct, wK_bk, wK_rt, wT_t, wT_f, fK_nx, fK_ct, fK_bk, fK_rt, fT_nm, tW, setT, setT.go, setT.go1, setixQ, parQ, setAll, szl0, szl1, szl2, szl3, szl4, szl5, szl6, szl7, szl8, szl9, szl10, szl11, szl12, szl13, szl14, Option.isSome_some, Option.isNone_none, List.getElem?_cons_zero, List.getElem?_cons_succ, Option.getD_some, ev, evA, evT, evO, gt, st, bind_ok, of_some, valsA, Option.map_some, demL, List.map_cons, List.map_nil, resolveA, List.all_nil, List.all_cons, if_true, Bool.false_eq_true, if_false, selL0, backsTo, op2_add, op2_sub, op2_mul, op2_mod, op2_fdiv, op2_and, addD_i, subD_i, fr_i, fr_b, fr_t, fr_l, fr_s, fr_n, hasd_0, hasd_i, Bool.and_self, Bool.and_true, nofz_i, nofz_b, intB_i, lenB_l, lenB_t, listB_t, tupB_l, maxB_i, cmp_lt, cmp_gt, cmp_ge, cmp_le, cmp_eq, cmp_ne, truthD_b, Option.isNone_some, List.length_map]
    exact hQ L' a (F.next hb0 hb (by omega) (by omega)) (by omega)
theorem lcls_body {cf : Cf} {D : Int} (hf : cf.fuel = Fu) (hg : ∀ x y : Int, y.natAbs < Fu → cf.call "_law_gcd" [(.int x, 0), (.int y, 0)] = .ok (.int (Int.gcd x y : Int), 0) [none, none]) (hD : D % 4 = 0 ∨ D % 4 = 1) (hD0 : -20000 ≤ D) (hD1 : D ≤ -3) :
    (exec cf d__law_classes.body [some (.int D, 0), none, none, none, none]).W fun fl ρ => ∃ L, fl = .rt (.lst ((sortT L).map tupI), 1) ∧ ClsL D L ∧ L.length ≤ 20000 := by
  unfold d__law_classes
  simp only [W_seq]
  simp only [W_seq, W_skip, W_asg, W_asgT, W_asgN, W_expr, W_ret, W_retn, W_brk, W_cnt, W_if, W_setix, W_par, W_ok, W_bind, kq_nx, kq_rt, kq_bk, kq_ct, iW_t, iW_f, wK_nx, wK_ct, wK_bk, wK_rt, wT_t, wT_f, fK_nx, fK_ct, fK_bk, fK_rt, fT_nm, tW, setT, setT.go, setT.go1, setixQ, parQ, setAll, szl0, szl1, szl2, szl3, szl4, szl5, szl6, szl7, szl8, szl9, szl10, szl11, szl12, szl13, szl14, Option.isSome_some, Option.isNone_none, List.getElem?_cons_zero, List.getElem?_cons_succ, Option.getD_some, ev, evA, evT, evO, gt, st, bind_ok, of_some, valsA, Option.map_some, demL, List.map_cons, List.map_nil, resolveA, List.all_nil, List.all_cons, if_true, Bool.false_eq_true, if_false, selL0, backsTo, op2_add, op2_sub, op2_mul, op2_mod, op2_fdiv, op2_and, addD_i, subD_i, fr_i, fr_b, fr_t, fr_l, fr_s, fr_n, hasd_0, hasd_i, Bool.and_self, Bool.and_true, nofz_i, nofz_b, intB_i, lenB_l, lenB_t, listB_t, tupB_l, maxB_i, cmp_lt, cmp_gt, cmp_ge, cmp_le, cmp_eq, cmp_ne, truthD_b, Option.isNone_some, List.length_map, modD_i (show (0 : Int) < 2 by decide)]
  refine W_whl (fun m ρ => ∃ (b : Int) (L : List (List Int)) (x3 x4 : Option Sl), ρ = [some (.int D, 0), some (.lst (L.map tupI), 1), some (.int b, 0), x3, x4] ∧ b % 2 = D % 2 ∧ 0 ≤ b ∧ b ≤ 83 ∧ Fnd D b 0 L ∧ (L.length : Int) ≤ 200 * b ∧ m = (100 - b).toNat) _
    ⟨D % 2, [], none, none, rfl, by omega, by omega, by omega, fnd_nil rfl, by simp; omega, rfl⟩ (by rw [hf]; unfold Fu; omega) ?_
  rintro m ρ ⟨b, L, x3, x4, rfl, hb, hb0, hb83, F, hl, rfl⟩
  have m1 : mulOk 3 b = true := mulOk_small (by decide)
  have m2 : mulOk (3 * b) b = true := mulOk_small (by omega)
  simp only [W_seq, W_skip, W_asg, W_asgT, W_asgN, W_expr, W_ret, W_retn, W_brk, W_cnt, W_if, W_setix, W_par, W_ok, W_bind, kq_nx, kq_rt, kq_bk, kq_ct, iW_t, iW_f, wK_nx, wK_ct, wK_bk, wK_rt, wT_t, wT_f, fK_nx, fK_ct, fK_bk, fK_rt, fT_nm, tW, setT, setT.go, setT.go1, setixQ, parQ, setAll, szl0, szl1, szl2, szl3, szl4, szl5, szl6, szl7, szl8, szl9, szl10, szl11, szl12, szl13, szl14, Option.isSome_some, Option.isNone_none, List.getElem?_cons_zero, List.getElem?_cons_succ, Option.getD_some, ev, evA, evT, evO, gt, st, bind_ok, of_some, valsA, Option.map_some, demL, List.map_cons, List.map_nil, resolveA, List.all_nil, List.all_cons, if_true, Bool.false_eq_true, if_false, selL0, backsTo, op2_add, op2_sub, op2_mul, op2_mod, op2_fdiv, op2_and, addD_i, subD_i, fr_i, fr_b, fr_t, fr_l, fr_s, fr_n, hasd_0, hasd_i, Bool.and_self, Bool.and_true, nofz_i, nofz_b, intB_i, lenB_l, lenB_t, listB_t, tupB_l, maxB_i, cmp_lt, cmp_gt, cmp_ge, cmp_le, cmp_eq, cmp_ne, truthD_b, Option.isNone_some, List.length_map, mulD_i m1, mulD_i m2]
  by_cases hc : 3 * b * b ≤ 0 - D
  · have m3 : mulOk b b = true := mulOk_small (by omega)
    have d4 : divOk 4 = true := by decide
    have hb81 : b ≤ 81 := by
      rcases Int.lt_or_le 81 b with h | h
      · have := Int.mul_le_mul (show (82 : Int) ≤ b by omega) (show (82 : Int) ≤ b by omega) (by omega) (by omega)
        have e : 3 * b * b = 3 * (b * b) := by grind
        omega
      · exact h
    simp only [decide_eq_true hc, W_seq, W_skip, W_asg, W_asgT, W_asgN, W_expr, W_ret, W_retn, W_brk, W_cnt, W_if, W_setix, W_par, W_ok, W_bind, kq_nx, kq_rt, kq_bk, kq_ct, iW_t, iW_f, wK_nx, wK_ct, wK_bk, wK_rt, wT_t, wT_f, fK_nx, fK_ct, fK_bk, fK_rt, fT_nm, tW, setT, setT.go, setT.go1, setixQ, parQ, setAll, szl0, szl1, szl2, szl3, szl4, szl5, szl6, szl7, szl8, szl9, szl10, szl11, szl12, szl13, szl14, Option.isSome_some, Option.isNone_none, List.getElem?_cons_zero, List.getElem?_cons_succ, Option.getD_some, ev, evA, evT, evO, gt, st, bind_ok, of_some, valsA, Option.map_some, demL, List.map_cons, List.map_nil, resolveA, List.all_nil, List.all_cons, if_true, Bool.false_eq_true, if_false, selL0, backsTo, op2_add, op2_sub, op2_mul, op2_mod, op2_fdiv, op2_and, addD_i, subD_i, fr_i, fr_b, fr_t, fr_l, fr_s, fr_n, hasd_0, hasd_i, Bool.and_self, Bool.and_true, nofz_i, nofz_b, intB_i, lenB_l, lenB_t, listB_t, tupB_l, maxB_i, cmp_lt, cmp_gt, cmp_ge, cmp_le, cmp_eq, cmp_ne, truthD_b, Option.isNone_some, List.length_map, mulD_i m3, fdivD_i d4]
    refine inner hf hg hD hD0 hD1 hb hb0 (by omega) (F.zero fun a β c h e => ?_) hl fun L' a' F' hl' => ?_
    · have h1 := h.pos
      have h2 := h.red.lo
      have h3 := h.red.hi
      split <;> omega
    · rw [kq_nx]
      simp only [W_seq, W_skip, W_asg, W_asgT, W_asgN, W_expr, W_ret, W_retn, W_brk, W_cnt, W_if, W_setix, W_par, W_ok, W_bind, kq_nx, kq_rt, kq_bk, kq_ct, iW_t, iW_f, wK_nx, wK_ct, wK_bk, wK_rt, wT_t, wT_f, fK_nx, fK_ct, fK_bk, fK_rt, fT_nm, tW, setT, setT.go, setT.go1, setixQ, parQ, setAll, szl0, szl1, szl2, szl3, szl4, szl5, szl6, szl7, szl8, szl9, szl10, szl11, szl12, szl13, szl14, Option.isSome_some, Option.isNone_none, List.getElem?_cons_zero, List.getElem?_cons_succ, Option.getD_some, ev, evA, evT, evO, gt, st, bind_ok, of_some, valsA, Option.map_some, demL, List.map_cons, List.map_nil, resolveA, List.all_nil, List.all_cons, if_true, Bool.false_eq_true, if_false, selL0, backsTo, op2_add, op2_sub, op2_mul, op2_mod, op2_fdiv, op2_and, addD_i, subD_i, fr_i, fr_b, fr_t, fr_l, fr_s, fr_n, hasd_0, hasd_i, Bool.and_self, Bool.and_true, nofz_i, nofz_b, intB_i, lenB_l, lenB_t, listB_t, tupB_l, maxB_i, cmp_lt, cmp_gt, cmp_ge, cmp_le, cmp_eq, cmp_ne, truthD_b, Option.isNone_some, List.length_map]
      exact ⟨_, by omega, b + 2, L', _, _, rfl, by omega, by omega, by omega, F', hl', rfl⟩
  · have F2 := F.done hb0 (by omega)
    have h0 : L ≠ [] := fun h => by
      have := (F2.mem [1, D % 2, (D % 2 * (D % 2) - D) / 4]).mpr ⟨_, _, _, rfl, cf_first hD hD1⟩
      rw [h] at this
      exact absurd this List.not_mem_nil
    have h1 : ∀ t ∈ L, t ≠ [] := fun t ht => by
      obtain ⟨a, b, c, rfl, _⟩ := (F2.mem t).mp ht
      simp
    simp only [decide_eq_false hc, W_seq, W_skip, W_asg, W_asgT, W_asgN, W_expr, W_ret, W_retn, W_brk, W_cnt, W_if, W_setix, W_par, W_ok, W_bind, kq_nx, kq_rt, kq_bk, kq_ct, iW_t, iW_f, wK_nx, wK_ct, wK_bk, wK_rt, wT_t, wT_f, fK_nx, fK_ct, fK_bk, fK_rt, fT_nm, tW, setT, setT.go, setT.go1, setixQ, parQ, setAll, szl0, szl1, szl2, szl3, szl4, szl5, szl6, szl7, szl8, szl9, szl10, szl11, szl12, szl13, szl14, Option.isSome_some, Option.isNone_none, List.getElem?_cons_zero, List.getElem?_cons_succ, Option.getD_some, ev, evA, evT, evO, gt, st, bind_ok, of_some, valsA, Option.map_some, demL, List.map_cons, List.map_nil, resolveA, List.all_nil, List.all_cons, if_true, Bool.false_eq_true, if_false, selL0, backsTo, op2_add, op2_sub, op2_mul, op2_mod, op2_fdiv, op2_and, addD_i, subD_i, fr_i, fr_b, fr_t, fr_l, fr_s, fr_n, hasd_0, hasd_i, Bool.and_self, Bool.and_true, nofz_i, nofz_b, intB_i, lenB_l, lenB_t, listB_t, tupB_l, maxB_i, cmp_lt, cmp_gt, cmp_ge, cmp_le, cmp_eq, cmp_ne, truthD_b, Option.isNone_some, List.length_map, sorted_T h0 h1]
    exact ⟨L, rfl, F2, by omega⟩
theorem lcls_F {k : Nat} {D : Int} (hD : D % 4 = 0 ∨ D % 4 = 1) (hD0 : -20000 ≤ D) (hD1 : D ≤ -3) : ∃ L, callN defs con Fu (k + 2) "_law_classes" [(.int D, 0)] = .ok (.lst ((sortT L).map tupI), 1) [none] ∧ ClsL D L ∧ L.length ≤ 20000 := by
  obtain ⟨v, outs, h, L, e1, e2, r⟩ := callN_W (R := fun v outs => ∃ L, v = (.lst ((sortT L).map tupI), 1) ∧ outs = [none] ∧ ClsL D L ∧ L.length ≤ 20000) (fuel := Fu) (k := k + 1) (con := con) (args := [(.int D, 0)]) lk_lcls rfl rfl
    (W_imp (lcls_body rfl (fun x y h => lgcd_run h) hD hD0 hD1) (by
      rintro fl ρ ⟨L, rfl, r⟩
      exact ⟨L, rfl, rfl, r⟩))
  subst e1 e2
  exact ⟨L, h, r⟩
end Pi.K37
/-! K37j: drawn discriminants -/
namespace Pi.K37
open PySem L2 Pi.Fm
theorem lk_ldisc : defs.lookup ("_law_discriminant" : Str) = some d__law_discriminant := by rfl
def dct : List (Key × D) := [(.inl 0, .int 0), (.inl 1, .int 0), (.inl 2, .int 1), (.inl 3, .int 2)]
theorem pairs4 : pairsK [.int 0, .int 0, .int 1, .int 0, .int 2, .int 1, .int 3, .int 2] = some dct := rfl
theorem merge4 : mergeD [] dct = dct := by
  unfold dct
  simp only [mergeD, putD_c]
  rfl
theorem ix4 {r : Int} (h0 : 0 ≤ r) (h1 : r < 4) : ixD (.dk dct) (.int r) = some (.int (if r = 2 then 1 else if r = 3 then 2 else 0)) := by
  rcases (show r = 0 ∨ r = 1 ∨ r = 2 ∨ r = 3 by omega) with rfl | rfl | rfl | rfl <;> rfl
def ev8 : List Sl := [(.int 0, 0), (.int 0, 0), (.int 1, 0), (.int 0, 0), (.int 2, 0), (.int 1, 0), (.int 3, 0), (.int 2, 0)]
def dctE : Ex := (.dict 0 (.cons (.int 0) (.cons (.int 0) (.cons (.int 1) (.cons (.int 0) (.cons (.int 2) (.cons (.int 1) (.cons (.int 3) (.cons (.int 2) .nil)))))))))
theorem dct_ev {cf : Cf} {ρ : Env} : ev cf dctE ρ = .ok (.dk dct, 1) ρ := by
  unfold dctE
  have h : decide ((ev8).length ≤ 30) = true := by decide
  unfold ev8 at h
  simp only [exec, ev, evA, evT, evO, gt, st, bind_ok, of_some, valsA, Option.map_some, demL, List.map_cons, List.map_nil, resolveA, List.all_nil, List.all_cons, if_true, Bool.false_eq_true, if_false, selL0, backsTo, op2_add, op2_sub, op2_mul, op2_mod, op2_fdiv, op2_and, addD_i, subD_i, fr_i, fr_b, fr_t, fr_l, fr_s, fr_n, hasd_0, hasd_i, Bool.and_self, Bool.and_true, nofz_i, nofz_b, intB_i, lenB_l, lenB_t, listB_t, tupB_l, maxB_i, cmp_lt, cmp_gt, cmp_ge, cmp_le, cmp_eq, cmp_ne, truthD_b, Option.isNone_some, List.length_map, h, pairs4, merge4]
theorem fix_disc {x : Int} (h0 : -20000 ≤ x) (h1 : x ≤ -3) : ((x - if x % 4 = 2 then 1 else if x % 4 = 3 then 2 else 0) % 4 = 0 ∨ (x - if x % 4 = 2 then 1 else if x % 4 = 3 then 2 else 0) % 4 = 1) ∧ -20000 ≤ (x - if x % 4 = 2 then 1 else if x % 4 = 3 then 2 else 0) ∧ (x - if x % 4 = 2 then 1 else if x % 4 = 3 then 2 else 0) ≤ -3 := by
  split
  · omega
  · split <;> omega
def lastR : Sm := (.ret (.op2 .Sub (.var 2) (.ix dctE (.op2 .Mod (.blt .int (.cons (.var 2) .nil)) (.int 4)))))
theorem last_W {cf : Cf} {x : Int} {a b c d : Option Sl} {Q : Fl → Env → Prop} (hQ : ∀ ρ, gt ρ 0 = a → Q (.rt (.int (x - if x % 4 = 2 then 1 else if x % 4 = 3 then 2 else 0), 0)) ρ) : (exec cf lastR [a, b, some (.int x, 0), c, d]).W Q := by
  unfold lastR
  have h4 := Int.emod_nonneg x (show (4 : Int) ≠ 0 by decide)
  have h5 := Int.emod_lt_of_pos x (show (0 : Int) < 4 by decide)
  simp only [W_seq, W_skip, W_asg, W_asgT, W_asgN, W_expr, W_ret, W_retn, W_brk, W_cnt, W_if, W_setix, W_par, W_ok, W_bind, kq_nx, kq_rt, kq_bk, kq_ct, iW_t, iW_f, wK_nx, wK_ct, wK_bk, wK_rt, wT_t, wT_f, fK_nx, fK_ct, fK_bk, fK_rt, fT_nm, tW, setT, setT.go, setT.go1, setixQ, parQ, setAll, szl0, szl1, szl2, szl3, szl4, szl5, szl6, szl7, szl8, szl9, szl10, szl11, szl12, szl13, szl14, Option.isSome_some, Option.isNone_none, List.getElem?_cons_zero, List.getElem?_cons_succ, Option.getD_some, ev, evA, evT, evO, gt, st, bind_ok, of_some, valsA, Option.map_some, demL, List.map_cons, List.map_nil, resolveA, List.all_nil, List.all_cons, if_true, Bool.false_eq_true, if_false, selL0, backsTo, op2_add, op2_sub, op2_mul, op2_mod, op2_fdiv, op2_and, addD_i, subD_i, fr_i, fr_b, fr_t, fr_l, fr_s, fr_n, hasd_0, hasd_i, Bool.and_self, Bool.and_true, nofz_i, nofz_b, intB_i, lenB_l, lenB_t, listB_t, tupB_l, maxB_i, cmp_lt, cmp_gt, cmp_ge, cmp_le, cmp_eq, cmp_ne, truthD_b, Option.isNone_some, List.length_map, dct_ev, modD_i (show (0 : Int) < 4 by decide), ix4 h4 h5]
  exact hQ _ rfl
def somesD : List D := [.int (-3), .int (-4), .int (-7), .int (-8), .int (-11), .int (-15), .int (-20), .int (-23), .int (-24), .int (-35), .int (-47), .int (-84), .int (-163), .int (-231)]
def facsD : List D := [.int 1, .int 2, .int 3, .int 4, .int 5, .int 6, .int 7, .int 8, .int 9, .int 10, .int 12, .int 25]
theorem somes_ok {x : D} (h : x ∈ somesD) : ∃ i : Int, x = .int i ∧ -231 ≤ i ∧ i ≤ -3 := by
  simp only [somesD, List.mem_cons, List.not_mem_nil, or_false] at h
  rcases h with rfl | rfl | rfl | rfl | rfl | rfl | rfl | rfl | rfl | rfl | rfl | rfl | rfl | rfl <;> exact ⟨_, rfl, by decide, by decide⟩
theorem facs_ok {x : D} (h : x ∈ facsD) : ∃ i : Int, x = .int i ∧ 1 ≤ i ∧ i ≤ 25 := by
  simp only [facsD, List.mem_cons, List.not_mem_nil, or_false] at h
  rcases h with rfl | rfl | rfl | rfl | rfl | rfl | rfl | rfl | rfl | rfl | rfl | rfl <;> exact ⟨_, rfl, by decide, by decide⟩
theorem maxI3 {x : Int} : bltD .max [.int (-20000), .int x] = some (.int (if x > -20000 then x else -20000)) := rfl
theorem ldisc_body {cf : Cf} {n : Int} {d : D} (hdr : Draws cf.call) (hpk : Picks cf.call) (hd : DeckOk n d) (hn0 : 0 ≤ n) (hn : n ≤ 10 ^ 14) :
    (exec cf d__law_discriminant.body [some (d, 2), none, none, none, none]).W fun fl ρ => ∃ D d', fl = .rt (.int D, 0) ∧ gt ρ 0 = some (d', 2) ∧ (D % 4 = 0 ∨ D % 4 = 1) ∧ -20000 ≤ D ∧ D ≤ -3 ∧ DeckOk (n + 4) d' := by
  have e0 : d__law_discriminant.body = (.seq (.asg (.nm 1) (.call "_law_draw" (.cons (.lend 0) (.cons (.int 4) .nil)) [] [(0, 0)]))
    (.seq (.ifs (.tcmp .Eq (.var 1) (.int 0))
    (.asg (.nm 2) (.op2 .Sub (.neg (.int 3)) (.call "_law_draw" (.cons (.lend 0) (.cons (.int 120) .nil)) [] [(0, 0)])))
    (.ifs (.tcmp .Eq (.var 1) (.int 1))
    (.asg (.nm 2) (.op2 .Sub (.neg (.int 3)) (.call "_law_draw" (.cons (.lend 0) (.cons (.int 19998) .nil)) [] [(0, 0)])))
    (.seq (.asg (.nm 3) (.tup 0 (.cons (.neg (.int 3)) (.cons (.neg (.int 4)) (.cons (.neg (.int 7)) (.cons (.neg (.int 8)) (.cons (.neg (.int 11)) (.cons (.neg (.int 15)) (.cons (.neg (.int 20)) (.cons (.neg (.int 23)) (.cons (.neg (.int 24)) (.cons (.neg (.int 35)) (.cons (.neg (.int 47)) (.cons (.neg (.int 84)) (.cons (.neg (.int 163)) (.cons (.neg (.int 231)) .nil))))))))))))))))
    (.seq (.asg (.nm 4) (.call "_law_pick" (.cons (.lend 0) (.cons (.tup 0 (.cons (.int 1) (.cons (.int 2) (.cons (.int 3) (.cons (.int 4) (.cons (.int 5) (.cons (.int 6) (.cons (.int 7) (.cons (.int 8) (.cons (.int 9) (.cons (.int 10) (.cons (.int 12) (.cons (.int 25) .nil))))))))))))) .nil)) [] [(0, 0)]))
    (.asg (.nm 2) (.blt .max (.cons (.neg (.int 20000)) (.cons (.op2 .Mult (.op2 .Mult (.call "_law_pick" (.cons (.lend 0) (.cons (.var 3) .nil)) [] [(0, 0)]) (.var 4)) (.var 4)) .nil))))))))
    lastR)) := rfl
  rw [e0]
  obtain ⟨r, d1, e1, r0, r1, hd1⟩ := hdr n 4 d hd (by omega) (by decide) (by decide)
  simp only [W_seq, W_skip, W_asg, W_asgT, W_asgN, W_expr, W_ret, W_retn, W_brk, W_cnt, W_if, W_setix, W_par, W_ok, W_bind, kq_nx, kq_rt, kq_bk, kq_ct, iW_t, iW_f, wK_nx, wK_ct, wK_bk, wK_rt, wT_t, wT_f, fK_nx, fK_ct, fK_bk, fK_rt, fT_nm, tW, setT, setT.go, setT.go1, setixQ, parQ, setAll, szl0, szl1, szl2, szl3, szl4, szl5, szl6, szl7, szl8, szl9, szl10, szl11, szl12, szl13, szl14, Option.isSome_some, Option.isNone_none, List.getElem?_cons_zero, List.getElem?_cons_succ, Option.getD_some, ev, evA, evT, evO, gt, st, bind_ok, of_some, valsA, Option.map_some, demL, List.map_cons, List.map_nil, resolveA, List.all_nil, List.all_cons, if_true, Bool.false_eq_true, if_false, selL0, backsTo, op2_add, op2_sub, op2_mul, op2_mod, op2_fdiv, op2_and, addD_i, subD_i, fr_i, fr_b, fr_t, fr_l, fr_s, fr_n, hasd_0, hasd_i, Bool.and_self, Bool.and_true, nofz_i, nofz_b, intB_i, lenB_l, lenB_t, listB_t, tupB_l, maxB_i, cmp_lt, cmp_gt, cmp_ge, cmp_le, cmp_eq, cmp_ne, truthD_b, Option.isNone_some, List.length_map, e1]
  by_cases hr : r = 0
  · obtain ⟨s, d2, e2, s0, s1, hd2⟩ := hdr (n + 1) 120 d1 hd1 (by omega) (by decide) (by decide)
    have hb : (r == 0) = true := by simpa using hr
    simp only [hb, W_seq, W_skip, W_asg, W_asgT, W_asgN, W_expr, W_ret, W_retn, W_brk, W_cnt, W_if, W_setix, W_par, W_ok, W_bind, kq_nx, kq_rt, kq_bk, kq_ct, iW_t, iW_f, wK_nx, wK_ct, wK_bk, wK_rt, wT_t, wT_f, fK_nx, fK_ct, fK_bk, fK_rt, fT_nm, tW, setT, setT.go, setT.go1, setixQ, parQ, setAll, szl0, szl1, szl2, szl3, szl4, szl5, szl6, szl7, szl8, szl9, szl10, szl11, szl12, szl13, szl14, Option.isSome_some, Option.isNone_none, List.getElem?_cons_zero, List.getElem?_cons_succ, Option.getD_some, ev, evA, evT, evO, gt, st, bind_ok, of_some, valsA, Option.map_some, demL, List.map_cons, List.map_nil, resolveA, List.all_nil, List.all_cons, if_true, Bool.false_eq_true, if_false, selL0, backsTo, op2_add, op2_sub, op2_mul, op2_mod, op2_fdiv, op2_and, addD_i, subD_i, fr_i, fr_b, fr_t, fr_l, fr_s, fr_n, hasd_0, hasd_i, Bool.and_self, Bool.and_true, nofz_i, nofz_b, intB_i, lenB_l, lenB_t, listB_t, tupB_l, maxB_i, cmp_lt, cmp_gt, cmp_ge, cmp_le, cmp_eq, cmp_ne, truthD_b, Option.isNone_some, List.length_map, neg_i, e2]
    refine last_W fun ρ hρ => ?_
    obtain ⟨q1, q2, q3⟩ := fix_disc (x := -3 - s) (by omega) (by omega)
    exact ⟨_, d2, rfl, hρ, q1, q2, q3, hd2.mono (by omega)⟩
  · have hb : (r == 0) = false := by simpa using hr
    by_cases hr1 : r = 1
    · obtain ⟨s, d2, e2, s0, s1, hd2⟩ := hdr (n + 1) 19998 d1 hd1 (by omega) (by decide) (by decide)
      have hb1 : (r == 1) = true := by simpa using hr1
      simp only [hb, hb1, W_seq, W_skip, W_asg, W_asgT, W_asgN, W_expr, W_ret, W_retn, W_brk, W_cnt, W_if, W_setix, W_par, W_ok, W_bind, kq_nx, kq_rt, kq_bk, kq_ct, iW_t, iW_f, wK_nx, wK_ct, wK_bk, wK_rt, wT_t, wT_f, fK_nx, fK_ct, fK_bk, fK_rt, fT_nm, tW, setT, setT.go, setT.go1, setixQ, parQ, setAll, szl0, szl1, szl2, szl3, szl4, szl5, szl6, szl7, szl8, szl9, szl10, szl11, szl12, szl13, szl14, Option.isSome_some, Option.isNone_none, List.getElem?_cons_zero, List.getElem?_cons_succ, Option.getD_some, ev, evA, evT, evO, gt, st, bind_ok, of_some, valsA, Option.map_some, demL, List.map_cons, List.map_nil, resolveA, List.all_nil, List.all_cons, if_true, Bool.false_eq_true, if_false, selL0, backsTo, op2_add, op2_sub, op2_mul, op2_mod, op2_fdiv, op2_and, addD_i, subD_i, fr_i, fr_b, fr_t, fr_l, fr_s, fr_n, hasd_0, hasd_i, Bool.and_self, Bool.and_true, nofz_i, nofz_b, intB_i, lenB_l, lenB_t, listB_t, tupB_l, maxB_i, cmp_lt, cmp_gt, cmp_ge, cmp_le, cmp_eq, cmp_ne, truthD_b, Option.isNone_some, List.length_map, neg_i, e2]
      refine last_W fun ρ hρ => ?_
      obtain ⟨q1, q2, q3⟩ := fix_disc (x := -3 - s) (by omega) (by omega)
      exact ⟨_, d2, rfl, hρ, q1, q2, q3, hd2.mono (by omega)⟩
    · have hb1 : (r == 1) = false := by simpa using hr1
      obtain ⟨x2, d2, e2, hx2, hd2⟩ := hpk (n + 1) 0 d1 true facsD hd1 (by omega) (by decide) (by decide)
      obtain ⟨f, rfl, f0, f1⟩ := facs_ok hx2
      obtain ⟨x3, d3, e3, hx3, hd3⟩ := hpk (n + 2) 0 d2 true somesD (hd2.mono (by omega)) (by omega) (by decide) (by decide)
      obtain ⟨s, rfl, s0, s1⟩ := somes_ok hx3
      have m1 : mulOk s f = true := mulOk_small (by omega)
      have m2 : mulOk (s * f) f = true := mulOk_r (by omega)
      simp only [seqD, if_true, somesD, facsD] at e2 e3
      simp only [hb, hb1, W_seq, W_skip, W_asg, W_asgT, W_asgN, W_expr, W_ret, W_retn, W_brk, W_cnt, W_if, W_setix, W_par, W_ok, W_bind, kq_nx, kq_rt, kq_bk, kq_ct, iW_t, iW_f, wK_nx, wK_ct, wK_bk, wK_rt, wT_t, wT_f, fK_nx, fK_ct, fK_bk, fK_rt, fT_nm, tW, setT, setT.go, setT.go1, setixQ, parQ, setAll, szl0, szl1, szl2, szl3, szl4, szl5, szl6, szl7, szl8, szl9, szl10, szl11, szl12, szl13, szl14, Option.isSome_some, Option.isNone_none, List.getElem?_cons_zero, List.getElem?_cons_succ, Option.getD_some, ev, evA, evT, evO, gt, st, bind_ok, of_some, valsA, Option.map_some, demL, List.map_cons, List.map_nil, resolveA, List.all_nil, List.all_cons, if_true, Bool.false_eq_true, if_false, selL0, backsTo, op2_add, op2_sub, op2_mul, op2_mod, op2_fdiv, op2_and, addD_i, subD_i, fr_i, fr_b, fr_t, fr_l, fr_s, fr_n, hasd_0, hasd_i, Bool.and_self, Bool.and_true, nofz_i, nofz_b, intB_i, lenB_l, lenB_t, listB_t, tupB_l, maxB_i, cmp_lt, cmp_gt, cmp_ge, cmp_le, cmp_eq, cmp_ne, truthD_b, Option.isNone_some, List.length_map, neg_i, e2, e3, mulD_i m1, mulD_i m2, maxI3]
      refine last_W fun ρ hρ => ?_
      have h1 : s * f * f ≤ -3 := by
        have p1 := Int.mul_le_mul_of_nonneg_right (show s ≤ -3 by omega) (show (0 : Int) ≤ f by omega)
        have p2 := Int.mul_le_mul_of_nonneg_right p1 (show (0 : Int) ≤ f by omega)
        have p3 := Int.mul_le_mul (show (1 : Int) ≤ f by omega) (show (1 : Int) ≤ f by omega) (by omega) (by omega)
        have e : -3 * f * f = -3 * (f * f) := by grind
        omega
      obtain ⟨q1, q2, q3⟩ := fix_disc (x := if s * f * f > -20000 then s * f * f else -20000) (by split <;> omega) (by split <;> omega)
      exact ⟨_, d3, rfl, hρ, q1, q2, q3, hd3.mono (by omega)⟩
theorem ldisc_F {k : Nat} {n : Int} {d : D} (hd : DeckOk n d) (hn0 : 0 ≤ n) (hn : n ≤ 10 ^ 14) : ∃ D d', callN defs con Fu (k + 3) "_law_discriminant" [(d, 2)] = .ok (.int D, 0) [some (d', 2)] ∧ (D % 4 = 0 ∨ D % 4 = 1) ∧ -20000 ≤ D ∧ D ≤ -3 ∧ DeckOk (n + 4) d' := by
  obtain ⟨v, outs, h, D, d', e1, e2, r⟩ := callN_W (R := fun v outs => ∃ D d', v = (.int D, 0) ∧ outs = [some (d', 2)] ∧ (D % 4 = 0 ∨ D % 4 = 1) ∧ -20000 ≤ D ∧ D ≤ -3 ∧ DeckOk (n + 4) d') (fuel := Fu) (k := k + 2) (con := con) (args := [(d, 2)]) lk_ldisc rfl rfl
    (W_imp (ldisc_body draws_ok picks_ok hd hn0 hn) (by
      rintro fl ρ ⟨D, d', rfl, e, r⟩
      refine ⟨D, d', rfl, ?_, r⟩
      have : outsOf d__law_discriminant ρ = [gt ρ 0] := rfl
      rw [this, e]))
  subst e1 e2
  exact ⟨D, d', h, r⟩
end Pi.K37
/-! K37k: a form led rightly -/
namespace Pi.K37
open PySem L2 Pi.Fm
theorem lk_isled : defs.lookup ("_law_is_led_right" : Str) = some d__law_is_led_right := by rfl
/-- a drawn form -/
structure Ff (D a b c : Int) : Prop where
  cf : CF D a b c
  lo : -20000 ≤ D
  hi : D ≤ -3
theorem Ff.fs {D a b c : Int} (f : Ff D a b c) : Fs a b c := by
  have h := f.cf.small f.lo
  have h1 := f.cf.red.lo
  have h2 := f.cf.red.hi
  have h3 := f.cf.pos
  exact ⟨f.cf.fo f.lo f.hi, sz_le (n := 6667) (by omega) (by decide), sz_le (n := 6667) (by omega) (by decide), sz_le (n := 6667) (by omega) (by decide)⟩
theorem Ff.sz {D a b c : Int} (f : Ff D a b c) : Sz 13 a ∧ Sz 13 b ∧ Sz 13 c := by
  have h := f.cf.small f.lo
  have h1 := f.cf.red.lo
  have h2 := f.cf.red.hi
  have h3 := f.cf.pos
  exact ⟨sz_le (n := 6667) (by omega) (by decide), sz_le (n := 6667) (by omega) (by decide), sz_le (n := 6667) (by omega) (by decide)⟩
theorem la_sz {a b c g i : Int} {k n : Nat} (ha : Sz k a) (hb : Sz k b) (hc : Sz k c) (hg : Sz n g) (hi : Sz n i) : Sz (k + n + n + 2) (la a b c g i) := by
  unfold la
  have := (((ha.mul hg).mul hg).add ((hb.mul hg).mul hi)).add ((hc.mul hi).mul hi)
  exact this.mono (by omega)
theorem lb_sz {a b c g h i j : Int} {k n : Nat} (ha : Sz k a) (hb : Sz k b) (hc : Sz k c) (hg : Sz n g) (hh : Sz n h) (hi : Sz n i) (hj : Sz n j) : Sz (k + n + n + 6) (lb a b c g h i j) := by
  unfold lb
  have := ((((sz2.mul ha).mul hg).mul hh).add (hb.mul ((hg.mul hj).add (hh.mul hi)))).add (((sz2.mul hc).mul hi).mul hj)
  exact this.mono (by omega)
/-- the led form -/
theorem Ff.led {D a b c g h i j : Int} (f : Ff D a b c) (m : Ms 60 g h i j) : Fs (la a b c g i) (lb a b c g h i j) (la a b c h j) := by
  obtain ⟨sa, sb, sc⟩ := f.sz
  exact ⟨f.fs.toFo.led m.dt, (la_sz sa sb sc m.sg m.si).mono (by decide), (lb_sz sa sb sc m.sg m.sh m.si m.sj).mono (by decide), (la_sz sa sb sc m.sh m.sj).mono (by decide)⟩
theorem va_led {a b c g h i j x y : Int} : va (la a b c g i) (lb a b c g h i j) (la a b c h j) x y = va a b c (g * x + h * y) (i * x + j * y) := by
  unfold va la lb; grind
theorem va_la {a b c x y : Int} : va a b c x y = la a b c x y := by unfold va la; rfl
theorem va_z {a b c : Int} : va a b c 0 0 = 0 := by unfold va; grind
theorem mat_inj {g h i j x y : Int} (hd : g * j - h * i = 1) (h1 : g * x + h * y = 0) (h2 : i * x + j * y = 0) : x = 0 ∧ y = 0 := by
  have e1 : (g * j - h * i) * x = j * (g * x + h * y) - h * (i * x + j * y) := by grind
  have e2 : (g * j - h * i) * y = g * (i * x + j * y) - i * (g * x + h * y) := by grind
  rw [hd, h1, h2] at e1 e2
  simp at e1 e2
  exact ⟨e1, e2⟩
theorem sel10 {α : Type} {x y : α} : selL [x, y] [1, 0] = [y, x] := rfl
theorem sel210 {α : Type} {x y z : α} : selL [x, y, z] [2, 1, 0] = [z, y, x] := rfl
theorem isnot_tt : cmpD .IsNot (.bl true) (.bl true) = some false := rfl
theorem ne_bl {p q : Bool} : cmpD .NotEq (.bl p) (.bl q) = some (!(p == q)) := rfl
theorem pl_int {x : Int} (h : Sz 990 x) : plR (.int x) = true := by
  simp only [plR, decide_eq_true_eq]
  exact Nat.lt_of_lt_of_le h (by decide +kernel)
theorem repr3 {x : Int} (h : Sz 990 x) : ∃ s, bltD .repr [.lst [.int x, .int x, .int x]] = some (.str s) := by
  refine repr_pl ?_ ?_ ?_
  · have := pl_int h
    simp only [plR, plRL] at this ⊢
    simp only [this, Bool.and_self]
  · simp only [szR, szRL]; decide
  · simp only [dpR, dpRL]; decide
theorem repr_ff {a b c : Int} (h1 : Sz 990 a) (h2 : Sz 990 b) (h3 : Sz 990 c) : ∃ s, bltD .repr [.lst [fD a b c, fD a b c]] = some (.str s) := by
  refine repr_pl ?_ ?_ ?_
  · have := pl_int h1
    have := pl_int h2
    have := pl_int h3
    simp only [fD, plR, plRL] at *
    simp only [*, Bool.and_self]
  · simp only [fD, szR, szRL]; decide
  · simp only [fD, dpR, dpRL]; decide
theorem repr_mm {a b c d : Int} (h1 : Sz 990 a) (h2 : Sz 990 b) (h3 : Sz 990 c) (h4 : Sz 990 d) : ∃ s, bltD .repr [.lst [mD a b c d, mD a b c d]] = some (.str s) := by
  refine repr_pl ?_ ?_ ?_
  · have := pl_int h1
    have := pl_int h2
    have := pl_int h3
    have := pl_int h4
    simp only [mD, plR, plRL] at *
    simp only [*, Bool.and_self]
  · simp only [mD, szR, szRL]; decide
  · simp only [mD, dpR, dpRL]; decide
theorem mul3 {d : D} : mulD (.lst [d]) (.int 3) = some (.lst [d, d, d]) := by
  have h : (decide (-(2 ^ 63) ≤ (3 : Int)) && decide ((3 : Int) < 2 ^ 63) && decide (1 * 3 ≤ sizeLine)) = true := by decide
  show (if (decide (-(2 ^ 63) ≤ (3 : Int)) && decide ((3 : Int) < 2 ^ 63) && decide (1 * 3 ≤ sizeLine)) = true then some (D.lst (List.replicate (3 : Int).toNat [d]).flatten) else none) = _
  rw [if_pos h]; rfl
theorem ne_ff (l : List Int) : cmpD .NotEq (tupI l) (tupI l) = some false := by rw [ne_tupI]; simp
/-- what the check of one matrix calls -/
structure LC (call : Str → List Sl → Cr) (a b c g h i j : Int) : Prop where
  ll : call "_law_led" [(fD a b c, 0), (mD g h i j, 0)] = .ok (ledD a b c g h i j, 0) [none, none]
  lf : call "led_form" [(fD a b c, 0), (mD g h i j, 0)] = .ok (ledD a b c g h i j, 0) [none, none]
  fo : call "is_form" [(ledD a b c g h i j, 0)] = .ok (.bl true, 0) [none]
  di : call "discriminant_of" [(ledD a b c g h i j, 0)] = .ok (.int (b * b - 4 * a * c), 0) [none]
  re : ∃ t, call "reduced" [(ledD a b c g h i j, 0)] = .ok (tupI t, 0) [none] ∧ call "reduced" [(fD a b c, 0)] = .ok (tupI t, 0) [none]
  in_ : ∀ (n : Int) (d : D), DeckOk n d → 0 ≤ n → n ≤ 10 ^ 13 → ∃ x d', call "_law_integer" [(d, 2)] = .ok (.int x, 0) [some (d', 2)] ∧ Sz 50 x ∧ DeckOk (n + 4) d'
  lv : ∀ x y : Int, Sz 200 x → Sz 200 y → call "_law_value" [(fD a b c, 0), (.int x, 0), (.int y, 0)] = .ok (.int (va a b c x y), 0) [none, none, none]
  v1 : ∀ x y : Int, Sz 200 x → Sz 200 y → call "value_at" [(fD a b c, 0), (.int x, 0), (.int y, 0)] = .ok (.int (va a b c x y), 0) [none, none, none]
  v2 : ∀ x y : Int, Sz 200 x → Sz 200 y → call "value_at" [(ledD a b c g h i j, 0), (.int x, 0), (.int y, 0)] = .ok (.int (va (la a b c g i) (lb a b c g h i j) (la a b c h j) x y), 0) [none, none, none]
theorem isled_body {cf : Cf} {D a b c g h i j n : Int} {d : Pi.D} (f : Ff D a b c) (m : Ms 60 g h i j) (C : LC cf.call a b c g h i j) (hd : DeckOk n d) (hn0 : 0 ≤ n) (hn : n ≤ 10 ^ 12) :
    (exec cf d__law_is_led_right.body [some (d, 2), some (.int D, 0), some (fD a b c, 0), some (mD g h i j, 0), none, none, none, none, none, none, none, none, none, none]).W fun fl ρ => ∃ d', fl = .rt (.bl true, 0) ∧ gt ρ 0 = some (d', 2) ∧ DeckOk (n + 24) d' := by
  have FL := f.led m
  have F := f.fs
  have M := m.mono (m := 200) (by decide)
  obtain ⟨s1, rp⟩ := repr_ff (FL.sa.mono (l := 990) (by decide)) (FL.sb.mono (l := 990) (by decide)) (FL.sc.mono (l := 990) (by decide))
  obtain ⟨t, r1, r2⟩ := C.re
  have hdisc : ((b * b - 4 * a * c == D)) = true := by simpa using f.cf.disc
  have hdn : (!(b * b - 4 * a * c == D)) = false := by rw [hdisc]; rfl
  have z0 : Sz 200 0 := by unfold Sz; decide
  have ll := C.ll
  have lf := C.lf
  have fo := C.fo
  have di := C.di
  have lv := C.lv
  have v1 := C.v1
  have v2 := C.v2
  have e0 : ledD a b c g h i j = fD (la a b c g i) (lb a b c g h i j) (la a b c h j) := rfl
  rw [e0] at ll lf fo di r1 v2
  simp only [va_led] at v2
  generalize hA : la a b c g i = A at *
  generalize hB : lb a b c g h i j = B at *
  generalize hC' : la a b c h j = C' at *
  simp only [fD, mD] at *
  unfold d__law_is_led_right
  simp only [W_seq, W_skip, W_asg, W_asgT, W_asgN, W_expr, W_ret, W_retn, W_brk, W_cnt, W_if, W_setix, W_par, W_ok, W_bind, kq_nx, kq_rt, kq_bk, kq_ct, iW_t, iW_f, wK_nx, wK_ct, wK_bk, wK_rt, wT_t, wT_f, fK_nx, fK_ct, fK_bk, fK_rt, fT_nm, tW, setT, setT.go, setT.go1, setixQ, parQ, setAll, szl0, szl1, szl2, szl3, szl4, szl5, szl6, szl7, szl8, szl9, szl10, szl11, szl12, szl13, szl14, Option.isSome_some, Option.isNone_none, List.getElem?_cons_zero, List.getElem?_cons_succ, Option.getD_some, ev, evA, evT, evO, gt, st, bind_ok, of_some, valsA, Option.map_some, demL, List.map_cons, List.map_nil, resolveA, List.all_nil, List.all_cons, if_true, Bool.false_eq_true, if_false, selL0, backsTo, op2_add, op2_sub, op2_mul, op2_mod, op2_fdiv, op2_and, addD_i, subD_i, fr_i, fr_b, fr_t, fr_l, fr_s, fr_n, hasd_0, hasd_i, Bool.and_self, Bool.and_true, nofz_i, nofz_b, intB_i, lenB_l, lenB_t, listB_t, tupB_l, maxB_i, cmp_lt, cmp_gt, cmp_ge, cmp_le, cmp_eq, cmp_ne, truthD_b, Option.isNone_some, List.length_map, ll, lf, sel10, rp, ne_strS, fo, isnot_tt, di, hdn, r1, r2, ne_ff]
  have hi : evI cf (.irng1 (.int 3)) [some (d, 2), some (.int D, 0), some (.tup [.int a, .int b, .int c], 0), some (.tup [.int g, .int h, .int i, .int j], 0), some (.tup [.int A, .int B, .int C'], 0), some (.int g, 0), some (.int h, 0), some (.int i, 0), some (.int j, 0), none, none, none, none, none] = .ok ((List.range 3).map fun k : Nat => Pi.D.int (k : Int)) [some (d, 2), some (.int D, 0), some (.tup [.int a, .int b, .int c], 0), some (.tup [.int g, .int h, .int i, .int j], 0), some (.tup [.int A, .int B, .int C'], 0), some (.int g, 0), some (.int h, 0), some (.int i, 0), some (.int j, 0), none, none, none, none, none] :=
    evI_irng1 (x := (.int 3, 0)) (by simp only [ev]) (rngZ (n := 3) (by decide))
  refine W_for (fun t ρ => ∃ d' x9 x10 x11 x12 x13, ρ = [some (d', 2), some (.int D, 0), some (.tup [.int a, .int b, .int c], 0), some (.tup [.int g, .int h, .int i, .int j], 0), some (.tup [.int A, .int B, .int C'], 0), some (.int g, 0), some (.int h, 0), some (.int i, 0), some (.int j, 0), x9, x10, x11, x12, x13] ∧ DeckOk (n + 8 * t) d' ∧ t ≤ 3) hi ⟨d, none, none, none, none, none, rfl, by simpa using hd, by omega⟩ ?_ ?_
  · rintro t x ρ hx ⟨d', x9, x10, x11, x12, x13, rfl, hd', ht0⟩
    have htr : t < 3 := by have := (List.getElem?_eq_some_iff.mp hx).1; simpa using this
    obtain ⟨x, d1, e1, sx, hd1⟩ := C.in_ _ d' hd' (by omega) (by omega)
    obtain ⟨y, d2, e2, sy, hd2⟩ := C.in_ _ d1 hd1 (by omega) (by omega)
    have sx' := sx.mono (l := 200) (by decide)
    have sy' := sy.mono (l := 200) (by decide)
    have su : Sz 111 (g * x + h * y) := ((m.sg.mul sx).add (m.sh.mul sy)).mono (by decide)
    have sv : Sz 111 (i * x + j * y) := ((m.si.mul sx).add (m.sj.mul sy)).mono (by decide)
    have lv' := lv _ _ (su.mono (by decide)) (sv.mono (by decide))
    have v1' := v1 _ _ (su.mono (by decide)) (sv.mono (by decide))
    have v2' := v2 x y sx' sy'
    have szv : Sz 990 (va a b c (g * x + h * y) (i * x + j * y)) := by
      rw [va_la]
      obtain ⟨q1, q2, q3⟩ := f.sz
      exact (la_sz q1 q2 q3 su sv).mono (by decide)
    obtain ⟨s3, rp3⟩ := repr3 szv
    have hpos : decide (va a b c (g * x + h * y) (i * x + j * y) > 0) = !decide (([x, y] : List Int) = [0, 0]) := by
      by_cases hxy : x = 0 ∧ y = 0
      · obtain ⟨rfl, rfl⟩ := hxy
        have : va a b c (g * 0 + h * 0) (i * 0 + j * 0) = 0 := by simp only [Int.mul_zero, Int.add_zero]; exact va_z
        rw [this]; simp
      · have h1 : ¬ ([x, y] : List Int) = [0, 0] := by simpa using hxy
        have h2 : 0 < va a b c (g * x + h * y) (i * x + j * y) := by
          rw [va_la]
          refine la_pos F.pos (by have := F.hi; omega) ?_
          by_cases h3 : g * x + h * y = 0
          · right; intro h4
            exact hxy (mat_inj m.dt h3 h4)
          · exact .inl h3
        rw [decide_eq_true h2, decide_eq_false h1]; rfl
    have hne := ne_tupI [x, y] [0, 0]
    simp only [tupI, List.map_cons, List.map_nil] at hne
    have hd3 : DeckOk (n + 8 * ((t + 1 : Nat) : Int)) d2 := hd2.mono (by omega)
    generalize va a b c (g * x + h * y) (i * x + j * y) = V at *
    have hfin : (!(decide (V > 0) == !decide (([x, y] : List Int) = [0, 0]))) = false := by rw [hpos]; simp
    simp only [W_seq, W_skip, W_asg, W_asgT, W_asgN, W_expr, W_ret, W_retn, W_brk, W_cnt, W_if, W_setix, W_par, W_ok, W_bind, kq_nx, kq_rt, kq_bk, kq_ct, iW_t, iW_f, wK_nx, wK_ct, wK_bk, wK_rt, wT_t, wT_f, fK_nx, fK_ct, fK_bk, fK_rt, fT_nm, tW, setT, setT.go, setT.go1, setixQ, parQ, setAll, szl0, szl1, szl2, szl3, szl4, szl5, szl6, szl7, szl8, szl9, szl10, szl11, szl12, szl13, szl14, Option.isSome_some, Option.isNone_none, List.getElem?_cons_zero, List.getElem?_cons_succ, Option.getD_some, ev, evA, evT, evO, gt, st, bind_ok, of_some, valsA, Option.map_some, demL, List.map_cons, List.map_nil, resolveA, List.all_nil, List.all_cons, if_true, Bool.false_eq_true, if_false, selL0, backsTo, op2_add, op2_sub, op2_mul, op2_mod, op2_fdiv, op2_and, addD_i, subD_i, fr_i, fr_b, fr_t, fr_l, fr_s, fr_n, hasd_0, hasd_i, Bool.and_self, Bool.and_true, nofz_i, nofz_b, intB_i, lenB_l, lenB_t, listB_t, tupB_l, maxB_i, cmp_lt, cmp_gt, cmp_ge, cmp_le, cmp_eq, cmp_ne, truthD_b, Option.isNone_some, List.length_map, e1, e2, mulD_i (mk2 M.sg sx'), mulD_i (mk2 M.sh sy'), mulD_i (mk2 M.si sx'), mulD_i (mk2 M.sj sy'), lv', v1', v2', sel210, rp3, mul3, ne_strS, hne, ne_bl]
    have hfin2 : (!(decide (0 < V) == !decide (([x, y] : List Int) = [0, 0]))) = false := hfin
    simp only [hfin2, W_seq, W_skip, W_asg, W_asgT, W_asgN, W_expr, W_ret, W_retn, W_brk, W_cnt, W_if, W_setix, W_par, W_ok, W_bind, kq_nx, kq_rt, kq_bk, kq_ct, iW_t, iW_f, wK_nx, wK_ct, wK_bk, wK_rt, wT_t, wT_f, fK_nx, fK_ct, fK_bk, fK_rt, fT_nm, tW, setT, setT.go, setT.go1, setixQ, parQ, setAll, szl0, szl1, szl2, szl3, szl4, szl5, szl6, szl7, szl8, szl9, szl10, szl11, szl12, szl13, szl14, Option.isSome_some, Option.isNone_none, List.getElem?_cons_zero, List.getElem?_cons_succ, Option.getD_some, ev, evA, evT, evO, gt, st, bind_ok, of_some, valsA, Option.map_some, demL, List.map_cons, List.map_nil, resolveA, List.all_nil, List.all_cons, if_true, Bool.false_eq_true, if_false, selL0, backsTo, op2_add, op2_sub, op2_mul, op2_mod, op2_fdiv, op2_and, addD_i, subD_i, fr_i, fr_b, fr_t, fr_l, fr_s, fr_n, hasd_0, hasd_i, Bool.and_self, Bool.and_true, nofz_i, nofz_b, intB_i, lenB_l, lenB_t, listB_t, tupB_l, maxB_i, cmp_lt, cmp_gt, cmp_ge, cmp_le, cmp_eq, cmp_ne, truthD_b, Option.isNone_some, List.length_map]
    exact ⟨d2, _, _, _, _, _, rfl, hd3, by omega⟩
  · rintro ρ ⟨d', x9, x10, x11, x12, x13, rfl, hd', _⟩
    have w1 := v1 0 0 z0 z0
    have w2 := v1 g i M.sg M.si
    rw [va_z] at w1
    rw [va_la, hA] at w2
    have b1 : ((0 : Int) == 0) = true := rfl
    have b2 : (A == A) = true := by simp
    simp only [W_seq, W_skip, W_asg, W_asgT, W_asgN, W_expr, W_ret, W_retn, W_brk, W_cnt, W_if, W_setix, W_par, W_ok, W_bind, kq_nx, kq_rt, kq_bk, kq_ct, iW_t, iW_f, wK_nx, wK_ct, wK_bk, wK_rt, wT_t, wT_f, fK_nx, fK_ct, fK_bk, fK_rt, fT_nm, tW, setT, setT.go, setT.go1, setixQ, parQ, setAll, szl0, szl1, szl2, szl3, szl4, szl5, szl6, szl7, szl8, szl9, szl10, szl11, szl12, szl13, szl14, Option.isSome_some, Option.isNone_none, List.getElem?_cons_zero, List.getElem?_cons_succ, Option.getD_some, ev, evA, evT, evO, gt, st, bind_ok, of_some, valsA, Option.map_some, demL, List.map_cons, List.map_nil, resolveA, List.all_nil, List.all_cons, if_true, Bool.false_eq_true, if_false, selL0, backsTo, op2_add, op2_sub, op2_mul, op2_mod, op2_fdiv, op2_and, addD_i, subD_i, fr_i, fr_b, fr_t, fr_l, fr_s, fr_n, hasd_0, hasd_i, Bool.and_self, Bool.and_true, nofz_i, nofz_b, intB_i, lenB_l, lenB_t, listB_t, tupB_l, maxB_i, cmp_lt, cmp_gt, cmp_ge, cmp_le, cmp_eq, cmp_ne, truthD_b, Option.isNone_some, List.length_map, w1, w2, b1, b2, ix_t0]
    exact ⟨d', trivial, rfl, by simpa using hd'⟩
theorem lc_ok {k : Nat} {D a b c g h i j : Int} (f : Ff D a b c) (m : Ms 60 g h i j) : LC (callN defs con Fu (k + 4)) a b c g h i j := by
  have FL := f.led m
  have F := f.fs
  have M := m.mono (m := 200) (by decide)
  have hd := disc_led (a := a) (b := b) (c := c) m.dt
  exact {
    ll := lled_run (F.sa.mono (by decide)) (F.sb.mono (by decide)) (F.sc.mono (by decide)) M.sg M.sh M.si M.sj
    lf := ledform_run F M
    fo := form_run (fuel := Fu) FL
    di := by rw [← hd]; exact discof_run FL
    re := by
      obtain ⟨g1, h1, i1, j1, e1, q1, q2⟩ := reduced_run (k := k) FL
      obtain ⟨g2, h2, i2, j2, e2, p1, p2⟩ := reduced_run (k := k) F
      have e3 : ledD (la a b c g i) (lb a b c g h i j) (la a b c h j) g1 h1 i1 j1 = ledD a b c (g * g1 + h * i1) (g * h1 + h * j1) (i * g1 + j * i1) (i * h1 + j * j1) := step_led
      rw [la_mul, lb_mul, la_mul] at q2
      obtain ⟨u1, u2, u3⟩ := red_two F.toFo (det_mul m.dt q1.dt) p1.dt q2 p2
      have e4 : ledD a b c (g * g1 + h * i1) (g * h1 + h * j1) (i * g1 + j * i1) (i * h1 + j * j1) = ledD a b c g2 h2 i2 j2 := by
        unfold ledD
        rw [u1, u2, u3]
      refine ⟨[la a b c g2 i2, lb a b c g2 h2 i2 j2, la a b c h2 j2], ?_, e2⟩
      rw [e3, e4] at e1
      exact e1
    in_ := fun n d h1 h2 h3 => lint_F h1 h2 h3
    lv := fun x y sx sy => lval_run (F.sa.mono (by decide)) (F.sb.mono (by decide)) (F.sc.mono (by decide)) sx sy
    v1 := fun x y sx sy => value_run F sx sy
    v2 := fun x y sx sy => value_run FL sx sy }
theorem isled_F {k : Nat} {D a b c g h i j n : Int} {d : Pi.D} (f : Ff D a b c) (m : Ms 60 g h i j) (hd : DeckOk n d) (hn0 : 0 ≤ n) (hn : n ≤ 10 ^ 12) : ∃ d', callN defs con Fu (k + 5) "_law_is_led_right" [(d, 2), (.int D, 0), (fD a b c, 0), (mD g h i j, 0)] = .ok (.bl true, 0) [some (d', 2), none, none, none] ∧ DeckOk (n + 24) d' := by
  obtain ⟨v, outs, hh, d', e1, e2, r⟩ := callN_W (R := fun v outs => ∃ d', v = (.bl true, 0) ∧ outs = [some (d', 2), none, none, none] ∧ DeckOk (n + 24) d') (fuel := Fu) (k := k + 4) (con := con) (args := [(d, 2), (.int D, 0), (fD a b c, 0), (mD g h i j, 0)]) lk_isled rfl rfl
    (W_imp (isled_body f m (lc_ok f m) hd hn0 hn) (by
      rintro fl ρ ⟨d', rfl, e, r⟩
      refine ⟨d', rfl, ?_, r⟩
      have : outsOf d__law_is_led_right ρ = [gt ρ 0, none, none, none] := rfl
      rw [this, e]))
  subst e1 e2
  exact ⟨d', hh, r⟩
end Pi.K37
/-! K37l: the law's run -/
namespace Pi.K37
open PySem L2 Pi.Fm
structure LawC (call : Str → List Sl → Cr) : Prop where
  isM : ∀ g h i j : Int, Ms 200 g h i j → call "is_matrix" [(mD g h i j, 0)] = .ok (.bl true, 0) [none]
  isL : ∀ (D a b c g h i j n : Int) (d : Pi.D), Ff D a b c → Ms 60 g h i j → DeckOk n d → 0 ≤ n → n ≤ 10 ^ 12 → ∃ d', call "_law_is_led_right" [(d, 2), (.int D, 0), (fD a b c, 0), (mD g h i j, 0)] = .ok (.bl true, 0) [some (d', 2), none, none, none] ∧ DeckOk (n + 24) d'
  lt : ∀ g h i j k m n o : Int, Ms 200 g h i j → Ms 200 k m n o → call "_law_times" [(mD g h i j, 0), (mD k m n o, 0)] = .ok (timD g h i j k m n o, 0) [none, none]
  mp : ∀ g h i j k m n o : Int, Ms 200 g h i j → Ms 200 k m n o → call "matrix_product" [(mD g h i j, 0), (mD k m n o, 0)] = .ok (timD g h i j k m n o, 0) [none, none]
  lf : ∀ a b c g h i j : Int, Fs a b c → Ms 200 g h i j → call "led_form" [(fD a b c, 0), (mD g h i j, 0)] = .ok (ledD a b c g h i j, 0) [none, none]
def forB : Sm := (.ifs (.tor (.tcmp .IsNot (.call "is_matrix" (.cons (.var 7) .nil) [] []) (.bl true)) (.tnot (.tval (.call "_law_is_led_right" (.cons (.lend 1) (.cons (.var 2) (.cons (.var 3) (.cons (.var 7) .nil)))) [] [(1, 0)]))))
    (.ret (.bl false))
    .skip)
theorem Ms.tim {n : Nat} {g h i j k m q o : Int} (x : Ms n g h i j) (y : Ms n k m q o) : Ms (n + n + 1) (g * k + h * q) (g * m + h * o) (i * k + j * q) (i * m + j * o) := by
  refine ⟨det_mul x.dt y.dt, ?_, ?_, ?_, ?_⟩
  · exact ((x.sg.mul y.sg).add (x.sh.mul y.si)).mono (by omega)
  · exact ((x.sg.mul y.sh).add (x.sh.mul y.sj)).mono (by omega)
  · exact ((x.si.mul y.sg).add (x.sj.mul y.si)).mono (by omega)
  · exact ((x.si.mul y.sh).add (x.sj.mul y.sj)).mono (by omega)
theorem ne_m {g h i j : Int} : cmpD .NotEq (mD g h i j) (mD g h i j) = some false := ne_ff [g, h, i, j]
theorem ne_f {a b c : Int} : cmpD .NotEq (fD a b c) (fD a b c) = some false := ne_ff [a, b, c]
theorem eq_m {g h i j : Int} : cmpD .Eq (mD g h i j) (mD g h i j) = some true := by
  have := eqD_tupI [g, h, i, j] [g, h, i, j]
  simp only [decide_true] at this
  exact this
theorem eq_f {a b c : Int} : cmpD .Eq (fD a b c) (fD a b c) = some true := by
  have := eqD_tupI [a, b, c] [a, b, c]
  simp only [decide_true] at this
  exact this
theorem law_for {cf : Cf} {D a b c n : Int} {d : Pi.D} {sc x7 x8 x9 : Option Sl} {v4 v5 v6 : Option Sl} {Q : Fl → Env → Prop} {l : List Pi.D} {it : Ex} (C : LawC cf.call) (f : Ff D a b c) (hd : DeckOk n d) (hn0 : 0 ≤ n) (hn : n ≤ 1000) (hl : l.length = 5)
    (hit : evI cf it [sc, some (d, 2), some (.int D, 0), some (fD a b c, 0), v4, v5, v6, x7, x8, x9] = .ok l [sc, some (d, 2), some (.int D, 0), some (fD a b c, 0), v4, v5, v6, x7, x8, x9])
    (hm : ∀ x ∈ l, ∃ g h i j, x = mD g h i j ∧ Ms 60 g h i j) (hQ : ∀ d' y, Q .nx [sc, some (d', 2), some (.int D, 0), some (fD a b c, 0), v4, v5, v6, y, x8, x9]) :
    (exec cf (.fors none (.nm 7) it forB) [sc, some (d, 2), some (.int D, 0), some (fD a b c, 0), v4, v5, v6, x7, x8, x9]).W Q := by
  refine W_for (fun t ρ => ∃ d' y, ρ = [sc, some (d', 2), some (.int D, 0), some (fD a b c, 0), v4, v5, v6, y, x8, x9] ∧ DeckOk (n + 24 * t) d' ∧ t ≤ 5) hit ⟨d, x7, rfl, by simpa using hd, by omega⟩ ?_ ?_
  · rintro t x ρ hx ⟨d', y, rfl, hd', ht⟩
    have htr : t < 5 := by have := (List.getElem?_eq_some_iff.mp hx).1; omega
    obtain ⟨g, h, i, j, rfl, M⟩ := hm x (List.mem_of_getElem? hx)
    have e1 := C.isM _ _ _ _ (M.mono (by decide))
    obtain ⟨d2, e2, hd2⟩ := C.isL _ _ _ _ _ _ _ _ _ _ f M hd' (by omega) (by omega)
    unfold forB
    simp only [W_seq, W_skip, W_asg, W_asgT, W_asgN, W_expr, W_ret, W_retn, W_brk, W_cnt, W_if, W_setix, W_par, W_ok, W_bind, kq_nx, kq_rt, kq_bk, kq_ct, iW_t, iW_f, wK_nx, wK_ct, wK_bk, wK_rt, wT_t, wT_f, fK_nx, fK_ct, fK_bk, fK_rt, fT_nm, tW, setT, setT.go, setT.go1, setixQ, parQ, setAll, szl0, szl1, szl2, szl3, szl4, szl5, szl6, szl7, szl8, szl9, szl10, szl11, szl12, szl13, szl14, Option.isSome_some, Option.isNone_none, List.getElem?_cons_zero, List.getElem?_cons_succ, Option.getD_some, ev, evA, evT, evO, gt, st, bind_ok, of_some, valsA, Option.map_some, demL, List.map_cons, List.map_nil, resolveA, List.all_nil, List.all_cons, if_true, Bool.false_eq_true, if_false, selL0, backsTo, op2_add, op2_sub, op2_mul, op2_mod, op2_fdiv, op2_and, addD_i, subD_i, fr_i, fr_b, fr_t, fr_l, fr_s, fr_n, hasd_0, hasd_i, Bool.and_self, Bool.and_true, nofz_i, nofz_b, intB_i, lenB_l, lenB_t, listB_t, tupB_l, maxB_i, cmp_lt, cmp_gt, cmp_ge, cmp_le, cmp_eq, cmp_ne, truthD_b, Option.isNone_some, List.length_map, e1, isnot_tt, e2, Bool.not_true]
    exact ⟨d2, _, rfl, hd2.mono (by omega), by omega⟩
  · rintro ρ ⟨d', y, rfl, hd', _⟩
    exact hQ d' y
theorem tim_inv {g h i j : Int} (hd : g * j - h * i = 1) : timD g h i j j (0 - h) (0 - i) g = mD 1 0 0 1 ∧ timD j (0 - h) (0 - i) g g h i j = mD 1 0 0 1 := by
  unfold timD
  have e1 : g * j + h * (0 - i) = 1 := by rw [← hd]; grind
  have e2 : g * (0 - h) + h * g = 0 := by grind
  have e3 : i * j + j * (0 - i) = 0 := by grind
  have e4 : i * (0 - h) + j * g = 1 := by rw [← hd]; grind
  have f1 : j * g + (0 - h) * i = 1 := by rw [← hd]; grind
  have f2 : j * h + (0 - h) * j = 0 := by grind
  have f3 : (0 - i) * g + g * i = 0 := by grind
  have f4 : (0 - i) * h + g * j = 1 := by rw [← hd]; grind
  rw [e1, e2, e3, e4, f1, f2, f3, f4]
  exact ⟨rfl, rfl⟩
theorem led_inv {a b c g h i j : Int} (hd : g * j - h * i = 1) : ledD (la a b c g i) (lb a b c g h i j) (la a b c h j) j (0 - h) (0 - i) g = fD a b c := by
  unfold ledD
  rw [Int.zero_sub, Int.zero_sub]
  obtain ⟨e1, e2, e3⟩ := led_back (a := a) (b := b) (c := c) hd
  rw [e1, e2, e3]
theorem tim_one {k m n o : Int} : timD 1 0 0 1 k m n o = mD k m n o := by
  unfold timD
  simp
theorem tim_assoc {g h i j k m n o p q r s : Int} : timD (g * k + h * n) (g * m + h * o) (i * k + j * n) (i * m + j * o) p q r s = timD g h i j (k * p + m * r) (k * q + m * s) (n * p + o * r) (n * q + o * s) := by
  unfold timD
  have e1 : (g * k + h * n) * p + (g * m + h * o) * r = g * (k * p + m * r) + h * (n * p + o * r) := by grind
  have e2 : (g * k + h * n) * q + (g * m + h * o) * s = g * (k * q + m * s) + h * (n * q + o * s) := by grind
  have e3 : (i * k + j * n) * p + (i * m + j * o) * r = i * (k * p + m * r) + j * (n * p + o * r) := by grind
  have e4 : (i * k + j * n) * q + (i * m + j * o) * s = i * (k * q + m * s) + j * (n * q + o * s) := by grind
  rw [e1, e2, e3, e4]
theorem law_body {cf : Cf} {ns : List Int} {D a b c g h i j k m n o p q r s N : Int} {d0 d1 d2 d3 d4 d5 : Pi.D} {L : List (List Int)} (C : LawC cf.call) (f : Ff D a b c)
    (h1 : cf.call "_law_deck" [(.scr ns, 0)] = .ok (d0, 2) [none]) (h2 : cf.call "_law_discriminant" [(d0, 2)] = .ok (.int D, 0) [some (d1, 2)]) (h3 : cf.call "_law_classes" [(.int D, 0)] = .ok (.lst (L.map tupI), 1) [none])
    (h4 : cf.call "_law_pick" [(d1, 2), (.lst (L.map tupI), 1)] = .ok (fD a b c, 0) [some (d2, 2), none]) (h5 : cf.call "_law_drawn_matrix" [(d2, 2)] = .ok (mD g h i j, 0) [some (d3, 2)]) (h6 : cf.call "_law_drawn_matrix" [(d3, 2)] = .ok (mD k m n o, 0) [some (d4, 2)])
    (h7 : cf.call "_law_matrix" [(d4, 2), (.int 3, 0), (.int 5, 0)] = .ok (mD p q r s, 0) [some (d5, 2), none, none]) (m1 : Ms 60 g h i j) (m2 : Ms 60 k m n o) (m3 : Ms 60 p q r s) (hd : DeckOk N d5) (hN0 : 0 ≤ N) (hN : N ≤ 1000) :
    (exec cf d_law.body [some (.scr ns, 0), none, none, none, none, none, none, none, none, none]).W fun fl ρ => fl = .rt (.bl true, 0) := by
  have e0 : d_law.body = (.seq (.asg (.nm 1) (.call "_law_deck" (.cons (.var 0) .nil) [] []))
    (.seq (.asg (.nm 2) (.call "_law_discriminant" (.cons (.lend 1) .nil) [] [(1, 0)]))
    (.seq (.asg (.nm 3) (.call "_law_pick" (.cons (.lend 1) (.cons (.call "_law_classes" (.cons (.var 2) .nil) [] []) .nil)) [] [(1, 0)]))
    (.seq (.par [4, 5, 6] (.cons (.call "_law_drawn_matrix" (.cons (.lend 1) .nil) [] [(1, 0)]) (.cons (.call "_law_drawn_matrix" (.cons (.lend 1) .nil) [] [(1, 0)]) (.cons (.call "_law_matrix" (.cons (.lend 1) (.cons (.int 3) (.cons (.int 5) .nil))) [] [(1, 0)]) .nil))))
    (.seq (.fors none (.nm 7) (.ival (.tup 0 (.cons (.var 4) (.cons (.var 5) (.cons (.var 6) (.cons (.tup 0 (.cons (.int 1) (.cons (.int 0) (.cons (.int 0) (.cons (.int 1) .nil))))) (.cons (.tup 0 (.cons (.neg (.int 1)) (.cons (.int 0) (.cons (.int 0) (.cons (.neg (.int 1)) .nil))))) .nil))))))) forB)
    (.seq (.asg (.nm 8) (.call "_law_times" (.cons (.var 4) (.cons (.var 5) .nil)) [] []))
    (.seq (.ifs (.tcmp .NotEq (.blt .repr (.cons (.lst 0 (.cons (.call "matrix_product" (.cons (.var 4) (.cons (.var 5) .nil)) [] []) (.cons (.call "matrix_product" (.cons (.var 5) (.cons (.var 4) .nil)) [1, 0] []) .nil))) .nil)) (.blt .repr (.cons (.lst 0 (.cons (.var 8) (.cons (.var 8) .nil))) .nil)))
    (.ret (.bl false))
    .skip)
    (.seq (.ifs (.tcmp .NotEq (.call "led_form" (.cons (.call "led_form" (.cons (.var 3) (.cons (.var 4) .nil)) [] []) (.cons (.var 5) .nil)) [] []) (.call "led_form" (.cons (.var 3) (.cons (.call "matrix_product" (.cons (.var 4) (.cons (.var 5) .nil)) [] []) .nil)) [] []))
    (.ret (.bl false))
    .skip)
    (.seq (.ifs (.tcmp .NotEq (.call "matrix_product" (.cons (.call "matrix_product" (.cons (.var 4) (.cons (.var 5) .nil)) [] []) (.cons (.var 6) .nil)) [] []) (.call "matrix_product" (.cons (.var 4) (.cons (.call "matrix_product" (.cons (.var 5) (.cons (.var 6) .nil)) [] []) .nil)) [] []))
    (.ret (.bl false))
    .skip)
    (.seq (.asg (.nm 9) (.tup 0 (.cons (.ix (.var 4) (.int 3)) (.cons (.op2 .Sub (.int 0) (.ix (.var 4) (.int 1))) (.cons (.op2 .Sub (.int 0) (.ix (.var 4) (.int 2))) (.cons (.ix (.var 4) (.int 0)) .nil))))))
    (.seq (.ifs (.tor (.tcmp .NotEq (.call "matrix_product" (.cons (.var 4) (.cons (.var 9) .nil)) [] []) (.tup 0 (.cons (.int 1) (.cons (.int 0) (.cons (.int 0) (.cons (.int 1) .nil)))))) (.tcmp .NotEq (.call "matrix_product" (.cons (.var 9) (.cons (.var 4) .nil)) [] []) (.tup 0 (.cons (.int 1) (.cons (.int 0) (.cons (.int 0) (.cons (.int 1) .nil)))))))
    (.ret (.bl false))
    .skip)
    (.ret (.and (.cmp .Eq (.call "led_form" (.cons (.call "led_form" (.cons (.var 3) (.cons (.var 4) .nil)) [] []) (.cons (.var 9) .nil)) [] []) (.var 3)) (.cmp .Eq (.call "matrix_product" (.cons (.tup 0 (.cons (.int 1) (.cons (.int 0) (.cons (.int 0) (.cons (.int 1) .nil))))) (.cons (.var 5) .nil)) [] []) (.var 5))))))))))))))) := rfl
  rw [e0]
  have z0 : Sz 60 0 := by unfold Sz; decide
  have z1 : Sz 60 1 := by unfold Sz; decide
  have zm : Sz 60 (-1) := by unfold Sz; decide
  have mI : Ms 60 1 0 0 1 := ⟨by decide, z1, z0, z0, z1⟩
  have mJ : Ms 60 (-1) 0 0 (-1) := ⟨by decide, zm, z0, z0, zm⟩
  have M1 := m1.mono (m := 200) (by decide)
  have M2 := m2.mono (m := 200) (by decide)
  have M3 := m3.mono (m := 200) (by decide)
  have MI := mI.mono (m := 200) (by decide)
  have t12 := (m1.tim m2).mono (m := 200) (by decide)
  have t23 := (m2.tim m3).mono (m := 200) (by decide)
  have mB : Ms 60 j (0 - h) (0 - i) g := ⟨by rw [← m1.dt]; grind, m1.sj, by rw [Int.zero_sub]; exact m1.sh.neg, by rw [Int.zero_sub]; exact m1.si.neg, m1.sg⟩
  have MB := mB.mono (m := 200) (by decide)
  have FL := f.led m1
  have c1 := C.lt _ _ _ _ _ _ _ _ M1 M2
  have c2 := C.mp _ _ _ _ _ _ _ _ M1 M2
  have c3 := C.lf _ _ _ _ _ _ _ f.fs M1
  have c4 := C.lf _ _ _ _ _ _ _ FL M2
  have c5 := C.lf _ _ _ _ _ _ _ f.fs t12
  have c6 := C.mp _ _ _ _ _ _ _ _ t12 M3
  have c7 := C.mp _ _ _ _ _ _ _ _ M2 M3
  have c8 := C.mp _ _ _ _ _ _ _ _ M1 t23
  have c9 := C.mp _ _ _ _ _ _ _ _ M1 MB
  have c10 := C.mp _ _ _ _ _ _ _ _ MB M1
  have c11 := C.lf _ _ _ _ _ _ _ FL MB
  have c12 := C.mp _ _ _ _ _ _ _ _ MI M2
  obtain ⟨b1, b2⟩ := tim_inv m1.dt
  rw [b1] at c9
  rw [b2] at c10
  rw [led_inv m1.dt] at c11
  rw [tim_one] at c12
  rw [tim_assoc] at c6
  rw [step_led] at c4
  obtain ⟨s1, rp⟩ := repr_mm (t12.sg.mono (l := 990) (by decide)) (t12.sh.mono (l := 990) (by decide)) (t12.si.mono (l := 990) (by decide)) (t12.sj.mono (l := 990) (by decide))
  have i0 : ixD (mD g h i j) (.int 0) = some (.int g) := ix_n (n := 0) rfl
  have i1 : ixD (mD g h i j) (.int 1) = some (.int h) := ix_n (n := 1) rfl
  have i2 : ixD (mD g h i j) (.int 2) = some (.int i) := ix_n (n := 2) rfl
  have i3 : ixD (mD g h i j) (.int 3) = some (.int j) := ix_n (n := 3) rfl
  simp only [W_seq, W_skip, W_asg, W_asgT, W_asgN, W_expr, W_ret, W_retn, W_brk, W_cnt, W_if, W_setix, W_par, W_ok, W_bind, kq_nx, kq_rt, kq_bk, kq_ct, iW_t, iW_f, wK_nx, wK_ct, wK_bk, wK_rt, wT_t, wT_f, fK_nx, fK_ct, fK_bk, fK_rt, fT_nm, tW, setT, setT.go, setT.go1, setixQ, parQ, setAll, szl0, szl1, szl2, szl3, szl4, szl5, szl6, szl7, szl8, szl9, szl10, szl11, szl12, szl13, szl14, Option.isSome_some, Option.isNone_none, List.getElem?_cons_zero, List.getElem?_cons_succ, Option.getD_some, ev, evA, evT, evO, gt, st, bind_ok, of_some, valsA, Option.map_some, demL, List.map_cons, List.map_nil, resolveA, List.all_nil, List.all_cons, if_true, Bool.false_eq_true, if_false, selL0, backsTo, op2_add, op2_sub, op2_mul, op2_mod, op2_fdiv, op2_and, addD_i, subD_i, fr_i, fr_b, fr_t, fr_l, fr_s, fr_n, hasd_0, hasd_i, Bool.and_self, Bool.and_true, nofz_i, nofz_b, intB_i, lenB_l, lenB_t, listB_t, tupB_l, maxB_i, cmp_lt, cmp_gt, cmp_ge, cmp_le, cmp_eq, cmp_ne, truthD_b, Option.isNone_some, List.length_map, h1, h2, h3, h4, h5, h6, h7]
  refine law_for C f hd hN0 hN (l := [mD g h i j, mD k m n o, mD p q r s, mD 1 0 0 1, mD (-1) 0 0 (-1)]) rfl ?_ ?_ ?_
  · simp only [evI, exec, ev, evA, evT, evO, gt, st, bind_ok, of_some, valsA, Option.map_some, demL, List.map_cons, List.map_nil, resolveA, List.all_nil, List.all_cons, if_true, Bool.false_eq_true, if_false, selL0, backsTo, op2_add, op2_sub, op2_mul, op2_mod, op2_fdiv, op2_and, addD_i, subD_i, fr_i, fr_b, fr_t, fr_l, fr_s, fr_n, hasd_0, hasd_i, Bool.and_self, Bool.and_true, nofz_i, nofz_b, intB_i, lenB_l, lenB_t, listB_t, tupB_l, maxB_i, cmp_lt, cmp_gt, cmp_ge, cmp_le, cmp_eq, cmp_ne, truthD_b, Option.isNone_some, List.length_map, neg_i, szl5, szl4, itemsD]
    rfl
  · intro x hx
    simp only [List.mem_cons, List.not_mem_nil, or_false] at hx
    rcases hx with rfl | rfl | rfl | rfl | rfl
    · exact ⟨_, _, _, _, rfl, m1⟩
    · exact ⟨_, _, _, _, rfl, m2⟩
    · exact ⟨_, _, _, _, rfl, m3⟩
    · exact ⟨_, _, _, _, rfl, mI⟩
    · exact ⟨_, _, _, _, rfl, mJ⟩
  · intro d' y
    have k1 : (Pi.D.tup [.int 1, .int 0, .int 0, .int 1]) = mD 1 0 0 1 := rfl
    have k2 : (Pi.D.tup [.int j, .int (0 - h), .int (0 - i), .int g]) = mD j (0 - h) (0 - i) g := rfl
    have k3 : ledD a b c g h i j = fD (la a b c g i) (lb a b c g h i j) (la a b c h j) := rfl
    have k4 : timD g h i j k m n o = mD (g * k + h * n) (g * m + h * o) (i * k + j * n) (i * m + j * o) := rfl
    have k5 : timD k m n o p q r s = mD (k * p + m * r) (k * q + m * s) (n * p + o * r) (n * q + o * s) := rfl
    rw [k3] at c3
    rw [k4] at c1 c2
    rw [k5] at c7
    have n1 : cmpD .NotEq (ledD a b c (g * k + h * n) (g * m + h * o) (i * k + j * n) (i * m + j * o)) (ledD a b c (g * k + h * n) (g * m + h * o) (i * k + j * n) (i * m + j * o)) = some false := ne_f
    have n2 : cmpD .NotEq (timD g h i j (k * p + m * r) (k * q + m * s) (n * p + o * r) (n * q + o * s)) (timD g h i j (k * p + m * r) (k * q + m * s) (n * p + o * r) (n * q + o * s)) = some false := ne_m
    simp only [W_seq, W_skip, W_asg, W_asgT, W_asgN, W_expr, W_ret, W_retn, W_brk, W_cnt, W_if, W_setix, W_par, W_ok, W_bind, kq_nx, kq_rt, kq_bk, kq_ct, iW_t, iW_f, wK_nx, wK_ct, wK_bk, wK_rt, wT_t, wT_f, fK_nx, fK_ct, fK_bk, fK_rt, fT_nm, tW, setT, setT.go, setT.go1, setixQ, parQ, setAll, szl0, szl1, szl2, szl3, szl4, szl5, szl6, szl7, szl8, szl9, szl10, szl11, szl12, szl13, szl14, Option.isSome_some, Option.isNone_none, List.getElem?_cons_zero, List.getElem?_cons_succ, Option.getD_some, ev, evA, evT, evO, gt, st, bind_ok, of_some, valsA, Option.map_some, demL, List.map_cons, List.map_nil, resolveA, List.all_nil, List.all_cons, if_true, Bool.false_eq_true, if_false, selL0, backsTo, op2_add, op2_sub, op2_mul, op2_mod, op2_fdiv, op2_and, addD_i, subD_i, fr_i, fr_b, fr_t, fr_l, fr_s, fr_n, hasd_0, hasd_i, Bool.and_self, Bool.and_true, nofz_i, nofz_b, intB_i, lenB_l, lenB_t, listB_t, tupB_l, maxB_i, cmp_lt, cmp_gt, cmp_ge, cmp_le, cmp_eq, cmp_ne, truthD_b, Option.isNone_some, List.length_map, c1, c2, sel10, rp, ne_strS, c3, c4, c5, n1, c6, c7, c8, n2, i0, i1, i2, i3, k1, k2, c9, c10, ne_m, c11, eq_f, c12, eq_m]
theorem lk_law : defs.lookup ("law" : Str) = some d_law := by rfl
theorem lawc_ok {k : Nat} : LawC (callN defs con Fu (k + 5)) where
  isM := fun g h i j m => matrix_run (fuel := Fu) m
  isL := fun D a b c g h i j n d f m h1 h2 h3 => isled_F f m h1 h2 h3
  lt := fun g h i j k m n o x y => ltimes_run x.sg x.sh x.si x.sj y.sg y.sh y.si y.sj
  mp := fun g h i j k m n o x y => mprod_run x y
  lf := fun a b c g h i j f m => ledform_run f m
theorem law_run (ns : List Int) : ∃ outs, callN defs con Fu 20 "law" [(.scr ns, 0)] = .ok (.bl true, 0) outs := by
  obtain ⟨d0, h1, hd0⟩ := deck_F (fuel := Fu) (k := 18) ns
  obtain ⟨D, d1, h2, hD, lo, hi, hd1⟩ := ldisc_F (k := 16) hd0 (by decide) (by decide)
  obtain ⟨L, h3, cl, hL⟩ := lcls_F (k := 17) hD lo hi
  have hne : sortT L ≠ [] := fun h => by
    have h5 : [1, D % 2, (D % 2 * (D % 2) - D) / 4] ∈ sortT L := (sortT_perm L).mem_iff.mpr ((cl.mem _).mpr ⟨_, _, _, rfl, cf_first hD hi⟩)
    rw [h] at h5
    exact absurd h5 List.not_mem_nil
  have hlen : (sortT L).length < 1073741824 := by rw [(sortT_perm L).length_eq]; omega
  obtain ⟨x, d2, h4, hx, hd2⟩ := pick_F (fuel := Fu) (k := 17) (n := 1) (b := false) (l := (sortT L).map tupI) hd1 (by decide) (by simpa using List.length_pos_iff.mpr hne) (by simpa using hlen)
  obtain ⟨t, ht, rfl⟩ := List.mem_map.mp hx
  obtain ⟨a, b, c, rfl, hcf⟩ := (cl.mem t).mp ((sortT_perm L).mem_iff.mp ht)
  have f : Ff D a b c := ⟨hcf, lo, hi⟩
  obtain ⟨g, h, i, j, d3, h5, m1, hd3⟩ := ldm_F (k := 16) hd2 (by decide) (by decide)
  obtain ⟨k, m, n, o, d4, h6, m2, hd4⟩ := ldm_F (k := 16) hd3 (by decide) (by decide)
  obtain ⟨p, q, r, s, d5, h7, m3, hd5⟩ := lmat_F (k := 17) (many := 3) (great := 5) hd4 (by decide) (by decide) (by decide) (by decide) (by decide) (by decide)
  obtain ⟨v, outs, hh, e1⟩ := callN_W (R := fun v outs => v = (.bl true, 0)) (fuel := Fu) (k := 19) (con := con) (args := [(.scr ns, 0)]) lk_law rfl rfl
    (W_imp (law_body lawc_ok f h1 h2 h3 h4 h5 h6 h7 (m1.ms (by decide)) (m2.ms (by decide)) (m3.ms (by decide)) hd5 (by decide) (by decide)) (by
      rintro fl ρ rfl
      exact rfl))
  subst e1
  exact ⟨outs, hh⟩
end Pi.K37
open PySem PySem.W PyProof.Rows in
set_option maxHeartbeats 0 in
theorem PySem.Challenge.cw_craterbeat_k37_matrices_lead_forms_holds : PySem.Challenge.rw_craterbeat_k37_matrices_lead_forms.Holds := by
  w_on; o_law; k_head; (case hw => w_witness2)
  k_fill
  refine Pi.walkL (l := PySem.Challenge.rw_craterbeat_k37_matrices_lead_forms) (n := 63) (k := 20) (x := "script") (call := Pi.callN Pi.K37.defs Pi.K37.con Pi.Fu 20 "law") rfl (by decide) rfl ⟨rfl, by decide, by decide⟩ (fun w h Y => PySem.W.kIn_of Y) ?F ?R
  case F =>
    intro w mg fa h KX G hmg
    refine' Pi.K37.all_mk KX G hmg ?a0 ?l0 ?c0 ?k0 ?a1 ?l1 ?c1 ?k1 ?a2 ?l2 ?c2 ?k2 ?a3 ?l3 ?c3 ?k3 ?a4 ?l4 ?c4 ?k4 ?a5 ?l5 ?c5 ?k5 ?a6 ?l6 ?c6 ?k6 ?a7 ?l7 ?c7 ?k7 ?a8 ?l8 ?c8 ?k8 ?a9 ?l9 ?c9 ?k9 ?a10 ?l10 ?c10 ?k10 ?a11 ?l11 ?c11 ?k11 ?a12 ?l12 ?c12 ?k12 ?a13 ?l13 ?c13 ?k13 ?a14 ?l14 ?c14 ?k14 ?a15 ?l15 ?c15 ?k15 ?a16 ?l16 ?c16 ?k16 ?a17 ?l17 ?c17 ?k17 ?a18 ?l18 ?c18 ?k18 ?a19 ?l19 ?c19 ?k19 ?a20 ?l20 ?c20 ?k20 ?a21 ?l21 ?c21 ?k21 ?a22 ?l22 ?c22 ?k22 ?a23 ?l23 ?c23 ?k23 ?a24 ?l24 ?c24 ?k24 ?a25 ?l25 ?c25 ?k25 ?a26 ?l26 ?c26 ?k26 ?a27 ?l27 ?c27 ?k27 ?a28 ?l28 ?c28 ?k28 ?z0 ?z1 ?z2 ?z3 ?z4 ?z5 ?z6 ?z7 ?z8 ?z9 ?z10 ?v0
    (case a0 => k_is)
    (case l0 => k_is)
    (case c0 => k_is)
    (case k0 => k_is)
    (case a1 => k_is)
    (case l1 => k_is)
    (case c1 => k_is)
    (case k1 => k_is)
    (case a2 => k_is)
    (case l2 => k_is)
    (case c2 => k_is)
    (case k2 => k_is)
    (case a3 => k_is)
    (case l3 => k_is)
    (case c3 => k_is)
    (case k3 => k_is)
    (case a4 => k_is)
    (case l4 => k_is)
    (case c4 => k_is)
    (case k4 => k_is)
    (case a5 => k_is)
    (case l5 => k_is)
    (case c5 => k_is)
    (case k5 => k_is)
    (case a6 => k_is)
    (case l6 => k_is)
    (case c6 => k_is)
    (case k6 => k_is)
    (case a7 => k_is)
    (case l7 => k_is)
    (case c7 => k_is)
    (case k7 => k_is)
    (case a8 => k_is)
    (case l8 => k_is)
    (case c8 => k_is)
    (case k8 => k_is)
    (case a9 => k_is)
    (case l9 => k_is)
    (case c9 => k_is)
    (case k9 => k_is)
    (case a10 => k_is)
    (case l10 => k_is)
    (case c10 => k_is)
    (case k10 => k_is)
    (case a11 => k_is)
    (case l11 => k_is)
    (case c11 => k_is)
    (case k11 => k_is)
    (case a12 => k_is)
    (case l12 => k_is)
    (case c12 => k_is)
    (case k12 => k_is)
    (case a13 => k_is)
    (case l13 => k_is)
    (case c13 => k_is)
    (case k13 => k_is)
    (case a14 => k_is)
    (case l14 => k_is)
    (case c14 => k_is)
    (case k14 => k_is)
    (case a15 => k_is)
    (case l15 => k_is)
    (case c15 => k_is)
    (case k15 => k_is)
    (case a16 => k_is)
    (case l16 => k_is)
    (case c16 => k_is)
    (case k16 => k_is)
    (case a17 => k_is)
    (case l17 => k_is)
    (case c17 => k_is)
    (case k17 => k_is)
    (case a18 => k_is)
    (case l18 => k_is)
    (case c18 => k_is)
    (case k18 => k_is)
    (case a19 => k_is)
    (case l19 => k_is)
    (case c19 => k_is)
    (case k19 => k_is)
    (case a20 => k_is)
    (case l20 => k_is)
    (case c20 => k_is)
    (case k20 => k_is)
    (case a21 => k_is)
    (case l21 => k_is)
    (case c21 => k_is)
    (case k21 => k_is)
    (case a22 => k_is)
    (case l22 => k_is)
    (case c22 => k_is)
    (case k22 => k_is)
    (case a23 => k_is)
    (case l23 => k_is)
    (case c23 => k_is)
    (case k23 => k_is)
    (case a24 => k_is)
    (case l24 => k_is)
    (case c24 => k_is)
    (case k24 => k_is)
    (case a25 => k_is)
    (case l25 => k_is)
    (case c25 => k_is)
    (case k25 => k_is)
    (case a26 => k_is)
    (case l26 => k_is)
    (case c26 => k_is)
    (case k26 => k_is)
    (case a27 => k_is)
    (case l27 => k_is)
    (case c27 => k_is)
    (case k27 => k_is)
    (case a28 => k_is)
    (case l28 => k_is)
    (case c28 => k_is)
    (case k28 => k_is)
    (case z0 => k_is)
    (case z1 => k_is)
    (case z2 => k_is)
    (case z3 => k_is)
    (case z4 => k_is)
    (case z5 => k_is)
    (case z6 => k_is)
    (case z7 => k_is)
    (case z8 => k_is)
    (case z9 => k_is)
    (case z10 => k_is)
    (case v0 => k_is)
  case R => exact fun ns _ => Pi.K37.law_run ns
