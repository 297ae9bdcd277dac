import PyProof.Rows.All
import Wide.All
import OpenK.AllK
import Wide.FinOn
import HandS.ForMost
import HandS.ForExc
import HandS.Style
import HandS.WideBits
import HandS.IsInst
import HandS.Codes
import KE.DatumOrd
import HandS.EndBits
import PySem.Challenge.RW_twoheaps_k03_tried

set_option Elab.async false
set_option linter.all false
set_option maxRecDepth 100000
set_option maxHeartbeats 1000000
set_option exponentiation.threshold 10000

/-! Two heaps: the mathematics, plain Lean, no program in sight. -/
namespace TH

/-! ### the root -/
def isqGo (n : Nat) : Nat → Nat
  | 0 => 0
  | k + 1 => if (k + 1) * (k + 1) ≤ n then k + 1 else isqGo n k
def isq (n : Nat) : Nat := isqGo n n
theorem isqGo_sq (n k : Nat) : isqGo n k * isqGo n k ≤ n := by
  induction k with
  | zero => simp [isqGo]
  | succ k ih => unfold isqGo; split <;> assumption
theorem isqGo_lt (n k : Nat) (h : n < (k + 1) * (k + 1)) : n < (isqGo n k + 1) * (isqGo n k + 1) := by
  induction k with
  | zero => simpa [isqGo] using h
  | succ k ih =>
    unfold isqGo
    split
    · exact h
    · exact ih (by omega)
theorem isq_sq (n : Nat) : isq n * isq n ≤ n := isqGo_sq n n
theorem isq_lt (n : Nat) : n < (isq n + 1) * (isq n + 1) := isqGo_lt n n (by
  have : (n + 1) * (n + 1) = n * n + n + n + 1 := by grind
  omega)
/-- the root of a whole number -/
def rt (n : Int) : Int := (isq n.toNat : Int)
theorem rt_nn (n : Int) : 0 ≤ rt n := Int.natCast_nonneg _
theorem rt_sq {n : Int} (h : 0 ≤ n) : rt n * rt n ≤ n := by
  have := isq_sq n.toNat
  have e : ((n.toNat : Nat) : Int) = n := Int.toNat_of_nonneg h
  unfold rt
  rw [← Int.natCast_mul]
  omega
theorem rt_lt {n : Int} (h : 0 ≤ n) : n < (rt n + 1) * (rt n + 1) := by
  have := isq_lt n.toNat
  have e : ((n.toNat : Nat) : Int) = n := Int.toNat_of_nonneg h
  unfold rt
  have e2 : ((isq n.toNat : Int) + 1) * ((isq n.toNat : Int) + 1) = (((isq n.toNat + 1) * (isq n.toNat + 1) : Nat) : Int) := by
    simp only [Int.natCast_mul, Int.natCast_add]; rfl
  rw [e2]
  omega
theorem sq_mono {a b : Int} (h0 : 0 ≤ a) (h : a ≤ b) : a * a ≤ b * b := by
  have h1 : a * a ≤ a * b := Int.mul_le_mul_of_nonneg_left h h0
  have h2 : a * b ≤ b * b := Int.mul_le_mul_of_nonneg_right h (by omega)
  omega
theorem sq_lt_imp {a b : Int} (hb : 0 ≤ b) (h : a * a < b * b) : a < b := by
  have := fun z : b ≤ a => sq_mono hb z
  omega
theorem rt_uniq {n r : Int} (hn : 0 ≤ n) (hr : 0 ≤ r) (h1 : r * r ≤ n) (h2 : n < (r + 1) * (r + 1)) : rt n = r := by
  have a := rt_sq hn
  have b := rt_lt hn
  have c := rt_nn n
  have d := sq_lt_imp (a := rt n) (b := r + 1) (by omega) (by omega)
  have e := sq_lt_imp (a := r) (b := rt n + 1) (by omega) (by omega)
  omega
theorem rt_le {n r : Int} (hn : 0 ≤ n) (hr : 0 ≤ r) (h : n < (r + 1) * (r + 1)) : rt n ≤ r := by
  have a := rt_sq hn
  have d := sq_lt_imp (a := rt n) (b := r + 1) (by omega) (by omega)
  omega
theorem le_rt {n r : Int} (hn : 0 ≤ n) (h : r * r ≤ n) : r ≤ rt n := by
  have b := rt_lt hn
  have c := rt_nn n
  have e := sq_lt_imp (a := r) (b := rt n + 1) (by omega) (by omega)
  omega
/-- a turn of the root's loop stays above -/
theorem newton_ge {n x : Int} (hn : 0 ≤ n) (hx : 0 < x) : rt n ≤ (x + n / x) / 2 := by
  have a := rt_sq hn
  have c := rt_nn n
  have k : 2 * rt n - x ≤ n / x := by
    rw [Int.le_ediv_iff_mul_le hx]
    have q : 0 ≤ (rt n - x) * (rt n - x) := by
      rcases Int.le_total (rt n) x with h | h
      · have := Int.mul_nonneg (show 0 ≤ x - rt n by omega) (show 0 ≤ x - rt n by omega)
        grind
      · exact Int.mul_nonneg (by omega) (by omega)
    grind
  omega
theorem newton_lt {n x : Int} (hx : 0 < x) (h : n < x * x) : (x + n / x) / 2 < x := by
  have : n / x < x := Int.ediv_lt_of_lt_mul hx h
  omega
theorem newton_nn {n x : Int} (hn : 0 ≤ n) (hx : 0 < x) : 0 ≤ (x + n / x) / 2 := by
  have := Int.ediv_nonneg hn (Int.le_of_lt hx)
  omega

theorem newton {n x : Int} (hn : 0 ≤ n) (h0 : 0 ≤ x) (hx : rt n ≤ x) (h : n < x * x) : 0 < x ∧ 0 ≤ (x + n / x) / 2 ∧ rt n ≤ (x + n / x) / 2 ∧ (x + n / x) / 2 < x := by
  have p : 0 < x := by
    rcases Int.lt_or_eq_of_le h0 with z | z
    · exact z
    · subst z
      simp at h
      omega
  exact ⟨p, newton_nn hn p, newton_ge hn p, newton_lt p h⟩
theorem newton_end {n x : Int} (hn : 0 ≤ n) (hx : rt n ≤ x) (h : ¬ n < x * x) : x = rt n := by
  have := le_rt hn (show x * x ≤ n by omega)
  omega
theorem pow_cast (k : Nat) : ((2 ^ k : Nat) : Int) = (2 : Int) ^ k := by rw [Int.natCast_pow]; rfl
theorem newton_start {n : Int} {b : Nat} (hn : 0 ≤ n) (h : n.natAbs < 2 ^ b) : 0 ≤ (1 : Int) * 2 ^ (((b : Int) + 1) / 2).toNat ∧ rt n ≤ 1 * 2 ^ (((b : Int) + 1) / 2).toNat := by
  have e : (((b : Int) + 1) / 2).toNat = (b + 1) / 2 := by omega
  rw [e, Int.one_mul, ← pow_cast]
  refine ⟨Int.natCast_nonneg _, ?_⟩
  have a := rt_sq hn
  have c : n.natAbs < 2 ^ ((b + 1) / 2) * 2 ^ ((b + 1) / 2) := by
    rw [← Nat.pow_add]
    exact Nat.lt_of_lt_of_le h (Nat.pow_le_pow_right (by decide) (by omega))
  have d : n < ((2 ^ ((b + 1) / 2) : Nat) : Int) * ((2 ^ ((b + 1) / 2) : Nat) : Int) := by
    rw [← Int.natCast_mul]
    omega
  exact Int.le_of_lt (sq_lt_imp (Int.natCast_nonneg _) (by omega))

/-! ### the form -/
/-- negative up to the pair's share of its number, positive beyond -/
def q (t j n : Int) : Int := j * j + t * j * n - n * n
theorem q_none_nat (t : Nat) (ht : 1 ≤ t) : ∀ (n j : Nat), j * j + t * j * n = n * n → n = 0 := by
  intro n
  induction n using Nat.strongRecOn with
  | _ n ih =>
    intro j h
    by_cases hn : n = 0
    · exact hn
    exfalso
    have hj : 0 < j := by
      rcases Nat.eq_zero_or_pos j with z | z
      · subst z
        have h2 : n * n = 0 := by simpa using h.symm
        rcases Nat.mul_eq_zero.mp h2 with z | z <;> omega
      · exact z
    have hlt : j < n := by
      rcases Nat.lt_or_ge j n with z | z
      · exact z
      · exfalso
        have h1 : n * n ≤ j * j := Nat.mul_le_mul z z
        have h2 : 0 < t * j * n := Nat.mul_pos (Nat.mul_pos (by omega) hj) (by omega)
        omega
    have htj : t * j < n := by
      rcases Nat.lt_or_ge (t * j) n with z | z
      · exact z
      · exfalso
        have h1 : n * n ≤ t * j * n := Nat.mul_le_mul_right n z
        have h2 : 0 < j * j := Nat.mul_pos hj hj
        omega
    obtain ⟨i, hi⟩ : ∃ i, n = t * j + i := ⟨n - t * j, by omega⟩
    have := ih j hlt i (by
      subst hi
      grind)
    omega
theorem q_none {t j n : Int} (ht : 1 ≤ t) (hj : 0 ≤ j) (hn : 0 ≤ n) (h : q t j n = 0) : n = 0 := by
  obtain ⟨a, rfl⟩ := Int.eq_ofNat_of_zero_le (show 0 ≤ t by omega)
  obtain ⟨b, rfl⟩ := Int.eq_ofNat_of_zero_le hj
  obtain ⟨c, rfl⟩ := Int.eq_ofNat_of_zero_le hn
  have := q_none_nat a (by omega) c b (by
    unfold q at h
    have e : ((b * b + a * b * c : Nat) : Int) = ((c * c : Nat) : Int) := by
      simp only [Int.natCast_mul, Int.natCast_add]
      omega
    exact Int.ofNat.inj e)
  omega
/-- what is below the share, and what beyond -/
theorem q_cmp {t j n j' n' : Int} (ht : 1 ≤ t) (hj' : 0 ≤ j') (hn : 0 ≤ n) (hn' : 0 < n') (h : q t j n < 0) (h' : 0 < q t j' n') : j * n' < j' * n := by
  rcases Int.lt_or_le (j * n') (j' * n) with z | z
  · exact z
  · exfalso
    have p0 : 0 ≤ j' * n := Int.mul_nonneg hj' hn
    have p1 : (j' * n) * (j' * n) ≤ (j * n') * (j * n') := sq_mono p0 z
    have p2 : (j' * n) * (t * (n * n')) ≤ (j * n') * (t * (n * n')) := Int.mul_le_mul_of_nonneg_right z (Int.mul_nonneg (by omega) (Int.mul_nonneg hn (by omega)))
    have p3 : n' * n' * q t j n < 0 := Int.mul_neg_of_pos_of_neg (Int.mul_pos hn' hn') h
    have p4 : 0 ≤ n * n * q t j' n' := Int.mul_nonneg (Int.mul_nonneg hn hn) (by omega)
    unfold q at p3 p4
    grind

/-! ### the lost pairs -/
/-- the lesser number of the lost pair n -/
def les (t n : Int) : Int := (n * (2 - t) + rt (n * n * (t * t + 4))) / 2
/-- the other number -/
def oth (t n : Int) : Int := les t n + t * n
/-- in which pair a number is -/
def fnd (t k : Int) : Int := (rt (k * k * (t * t + 4)) + k * (t - 2)) / (2 * t) + 1
def plc (t k : Int) : Int := if les t (fnd t k) = k then fnd t k else k - fnd t k + 1

theorem disc_nn (t n : Int) : 0 ≤ n * n * (t * t + 4) := by
  have h : ∀ x : Int, 0 ≤ x * x := fun x => by
    rcases Int.le_total 0 x with z | z
    · exact Int.mul_nonneg z z
    · exact Int.mul_nonneg_of_nonpos_of_nonpos z z
  exact Int.mul_nonneg (h n) (by have := h t; omega)
theorem rt_disc_ge {t n : Int} (ht : 0 ≤ t) (hn : 0 ≤ n) : n * t ≤ rt (n * n * (t * t + 4)) := by
  apply le_rt (disc_nn t n)
  have := Int.mul_nonneg hn hn
  grind
theorem les_spec {t n : Int} (ht : 1 ≤ t) (hn : 1 ≤ n) : 0 ≤ les t n - n ∧ q t (les t n - n) n < 0 ∧ 0 < q t (les t n - n + 1) n := by
  have d := disc_nn t n
  have a := rt_sq d
  have b := rt_lt d
  have c := rt_disc_ge (t := t) (n := n) (by omega) (by omega)
  have hs : 0 ≤ rt (n * n * (t * t + 4)) := rt_nn _
  have e : les t n = (n * (2 - t) + rt (n * n * (t * t + 4))) / 2 := rfl
  generalize rt (n * n * (t * t + 4)) = s at *
  generalize les t n = L at *
  have e1 : n * (2 - t) = 2 * n - n * t := by grind
  rw [e1] at e
  have hnt : 1 * 1 ≤ n * t := Int.mul_le_mul hn ht (by omega) (by omega)
  obtain ⟨j, rfl⟩ : ∃ j, L = n + j := ⟨L - n, by omega⟩
  have u1 : 2 * j + n * t ≤ s := by omega
  have u2 : s + 1 ≤ 2 * (j + 1) + n * t := by omega
  have hj : 0 ≤ j := by omega
  have k1 : (2 * j + n * t) * (2 * j + n * t) ≤ s * s := sq_mono (by omega) u1
  have k2 : (s + 1) * (s + 1) ≤ (2 * (j + 1) + n * t) * (2 * (j + 1) + n * t) := sq_mono (by omega) u2
  have f1 : q t j n ≤ 0 := by unfold q; grind
  have f2 : 0 < q t (j + 1) n := by unfold q; grind
  have f3 : q t j n ≠ 0 := fun z => by
    have := q_none ht hj (by omega) z
    omega
  rw [show n + j - n = j by omega]
  exact ⟨hj, by omega, f2⟩
theorem les_of {t n j : Int} (ht : 1 ≤ t) (hn : 1 ≤ n) (hj : 0 ≤ j) (h1 : q t j n < 0) (h2 : 0 < q t (j + 1) n) : les t n = n + j := by
  obtain ⟨a, b, c⟩ := les_spec ht hn
  have x := q_cmp ht (show 0 ≤ j + 1 by omega) (by omega) (by omega) b h2
  have y := q_cmp ht (show 0 ≤ les t n - n + 1 by omega) (by omega) (by omega) h1 c
  have x' := Int.lt_of_mul_lt_mul_right x (by omega)
  have y' := Int.lt_of_mul_lt_mul_right y (by omega)
  omega
theorem rt0 : rt 0 = 0 := rfl
theorem les0 (t : Int) : les t 0 = 0 := by
  unfold les
  simp [rt0]
theorem oth0 (t : Int) : oth t 0 = 0 := by
  unfold oth
  rw [les0]
  omega
theorem les_ge {t n : Int} (ht : 1 ≤ t) (hn : 0 ≤ n) : n ≤ les t n := by
  rcases Int.lt_or_le 0 n with z | z
  · have := (les_spec ht (show 1 ≤ n by omega)).1
    omega
  · have : n = 0 := by omega
    subst this
    rw [les0]
    omega
theorem les_mono {t n m : Int} (ht : 1 ≤ t) (hn : 0 ≤ n) (h : n < m) : les t n < les t m := by
  obtain ⟨a', b', c'⟩ := les_spec ht (show 1 ≤ m by omega)
  rcases Int.lt_or_le 0 n with z | z
  · obtain ⟨a, b, c⟩ := les_spec ht (show 1 ≤ n by omega)
    have x := q_cmp ht (show 0 ≤ les t m - m + 1 by omega) (by omega) (by omega) b c'
    have y : (les t n - n) * m < (les t m - m + 1) * m := Int.lt_of_lt_of_le x (Int.mul_le_mul_of_nonneg_left (by omega) (by omega))
    have x' := Int.lt_of_mul_lt_mul_right y (by omega)
    omega
  · have : n = 0 := by omega
    subst this
    rw [les0]
    omega
theorem les_inj {t n m : Int} (ht : 1 ≤ t) (hn : 0 ≤ n) (hm : 0 ≤ m) (h : les t n = les t m) : n = m := by
  rcases Int.lt_trichotomy n m with z | z | z
  · have := les_mono ht hn z; omega
  · exact z
  · have := les_mono ht hm z; omega
theorem oth_mono {t n m : Int} (ht : 1 ≤ t) (hn : 0 ≤ n) (h : n < m) : oth t n < oth t m := by
  have a := les_mono ht hn h
  have b := Int.mul_le_mul_of_nonneg_left (show n ≤ m by omega) (show 0 ≤ t by omega)
  unfold oth
  omega
theorem oth_inj {t n m : Int} (ht : 1 ≤ t) (hn : 0 ≤ n) (hm : 0 ≤ m) (h : oth t n = oth t m) : n = m := by
  rcases Int.lt_trichotomy n m with z | z | z
  · have := oth_mono ht hn z; omega
  · exact z
  · have := oth_mono ht hm z; omega
theorem les_le_oth {t n : Int} (ht : 1 ≤ t) (hn : 0 ≤ n) : les t n ≤ oth t n := by
  have := Int.mul_nonneg (show 0 ≤ t by omega) hn
  unfold oth
  omega
theorem les_lt_oth {t n : Int} (ht : 1 ≤ t) (hn : 0 < n) : les t n < oth t n := by
  have := Int.mul_pos (show 0 < t by omega) hn
  unfold oth
  omega
/-- no lesser number is another pair's greater one -/
theorem les_ne_oth {t n m : Int} (ht : 1 ≤ t) (hn : 1 ≤ n) (hm : 1 ≤ m) : les t n ≠ oth t m := by
  intro h
  obtain ⟨a, b, c⟩ := les_spec ht hn
  obtain ⟨a', b', c'⟩ := les_spec ht hm
  unfold oth at h
  have tm : 0 ≤ t * m := Int.mul_nonneg (by omega) (by omega)
  generalize les t n = x at *
  generalize les t m = y at *
  obtain ⟨j, rfl⟩ : ∃ j, x = n + j := ⟨x - n, by omega⟩
  obtain ⟨i, rfl⟩ : ∃ i, y = m + i := ⟨y - m, by omega⟩
  rw [show n + j - n = j by omega] at *
  rw [show m + i - m = i by omega] at *
  -- n' = i + t m : q m n' > 0 > q m (n' + 1)
  have p1 : 0 < q t m (i + t * m) := by unfold q at b' ⊢; grind
  have p2 : q t m (i + t * m + 1) < 0 := by unfold q at c' ⊢; grind
  have hn'0 : 0 < i + t * m := by
    have : 1 * 1 ≤ t * m := Int.mul_le_mul ht hm (by omega) (by omega)
    omega
  rcases Int.lt_or_le (i + t * m) n with z | z
  · have x1 := q_cmp ht (show 0 ≤ j + 1 by omega) (by omega) (by omega) p2 c
    have x2 : m * n < (j + 1) * n := Int.lt_of_lt_of_le x1 (Int.mul_le_mul_of_nonneg_left (by omega) (by omega))
    have x3 := Int.lt_of_mul_lt_mul_right x2 (by omega)
    omega
  · have x1 := q_cmp ht (show 0 ≤ m by omega) (by omega) hn'0 b p1
    have x2 : j * (i + t * m) < m * (i + t * m) := Int.lt_of_lt_of_le x1 (Int.mul_le_mul_of_nonneg_left z (by omega))
    have x3 := Int.lt_of_mul_lt_mul_right x2 (by omega)
    omega
/-- a number is in a pair -/
def inp (t n x : Int) : Prop := les t n = x ∨ oth t n = x
theorem inp_one {t n m x : Int} (ht : 1 ≤ t) (hn : 0 ≤ n) (hm : 0 ≤ m) (hx : 1 ≤ x) (h1 : inp t n x) (h2 : inp t m x) : n = m := by
  have p : ∀ {k}, 0 ≤ k → inp t k x → 1 ≤ k := by
    intro k hk h
    rcases Int.lt_or_le 0 k with z | z
    · omega
    · have : k = 0 := by omega
      subst this
      unfold inp at h
      rw [les0, oth0] at h
      omega
  have pn := p hn h1
  have pm := p hm h2
  rcases h1 with h1 | h1 <;> rcases h2 with h2 | h2
  · exact les_inj ht hn hm (by omega)
  · exact absurd (h1.trans h2.symm) (les_ne_oth ht pn pm)
  · exact absurd (h2.trans h1.symm) (les_ne_oth ht pm pn)
  · exact oth_inj ht hn hm (by omega)
theorem fnd_spec {t k : Int} (ht : 1 ≤ t) (hk : 1 ≤ k) : 1 ≤ fnd t k ∧ 0 < q t (k - (fnd t k - 1)) (fnd t k - 1) ∧ q t (k - fnd t k) (fnd t k) < 0 := by
  have d := disc_nn t k
  have a := rt_sq d
  have b := rt_lt d
  have c := rt_disc_ge (t := t) (n := k) (by omega) (by omega)
  have hs : 0 ≤ rt (k * k * (t * t + 4)) := rt_nn _
  have e : fnd t k = (rt (k * k * (t * t + 4)) + k * (t - 2)) / (2 * t) + 1 := rfl
  generalize rt (k * k * (t * t + 4)) = s at *
  generalize fnd t k = F at *
  have ekt : k * (t - 2) = k * t - 2 * k := by grind
  have hkt : k * 1 ≤ k * t := Int.mul_le_mul_of_nonneg_left ht (by omega)
  have h0 : 0 ≤ s + k * (t - 2) := by omega
  have hpos : (0 : Int) < 2 * t := by omega
  have e0 : F - 1 = (s + k * (t - 2)) / (2 * t) := by omega
  have hF : 0 ≤ F - 1 := by
    rw [e0]
    exact Int.ediv_nonneg h0 (by omega)
  have l1 : (F - 1) * (2 * t) ≤ s + k * (t - 2) := by
    rw [e0]
    exact Int.ediv_mul_le _ (by omega)
  have l2 : s + k * (t - 2) < F * (2 * t) := by
    have := Int.lt_ediv_add_one_mul_self (s + k * (t - 2)) hpos
    rw [← e0] at this
    rwa [show F - 1 + 1 = F by omega] at this
  obtain ⟨n, rfl⟩ : ∃ n, F = n + 1 := ⟨F - 1, by omega⟩
  rw [show n + 1 - 1 = n by omega] at *
  -- v = 2 t n - (t - 2) k is within
  have v1 : 2 * t * n - (t - 2) * k ≤ s := by grind
  have tn : 0 ≤ t * n := Int.mul_nonneg (by omega) hF
  have v2 : -(k * t) ≤ 2 * t * n - (t - 2) * k := by grind
  have v3 : s + 1 ≤ 2 * t * (n + 1) - (t - 2) * k := by grind
  have hkk : 0 < k * k := Int.mul_pos (by omega) (by omega)
  have w1 : (2 * t * n - (t - 2) * k) * (2 * t * n - (t - 2) * k) ≤ k * k * (t * t + 4) := by
    rcases Int.le_total 0 (2 * t * n - (t - 2) * k) with z | z
    · have := sq_mono z v1
      omega
    · have := sq_mono (a := -(2 * t * n - (t - 2) * k)) (b := k * t) (by omega) (by omega)
      grind
  have w2 : (s + 1) * (s + 1) ≤ (2 * t * (n + 1) - (t - 2) * k) * (2 * t * (n + 1) - (t - 2) * k) := sq_mono (by omega) v3
  have i1 : 0 ≤ t * q t (k - n) n := by unfold q; grind
  have i2 : t * q t (k - (n + 1)) (n + 1) < 0 := by unfold q; grind
  have j1 : 0 ≤ q t (k - n) n := by
    rcases Int.lt_or_le (q t (k - n) n) 0 with z | z
    · have := Int.mul_neg_of_pos_of_neg (show 0 < t by omega) z
      omega
    · exact z
  have j2 : q t (k - (n + 1)) (n + 1) < 0 := by
    rcases Int.lt_or_le (q t (k - (n + 1)) (n + 1)) 0 with z | z
    · exact z
    · have := Int.mul_nonneg (show 0 ≤ t by omega) z
      omega
  have hm : 0 ≤ k - n := by
    rcases Int.lt_or_le k n with z | z
    · exfalso
      have y1 : t * (n * (k - n)) ≤ 0 := Int.mul_nonpos_of_nonneg_of_nonpos (by omega) (Int.mul_nonpos_of_nonneg_of_nonpos hF (by omega))
      have y2 : k * k < k * n := Int.mul_lt_mul_of_pos_left z (by omega)
      unfold q at j1
      grind
    · omega
  refine ⟨by omega, ?_, j2⟩
  rcases Int.lt_or_eq_of_le j1 with z | z
  · exact z
  · exfalso
    have n0 := q_none ht hm hF z.symm
    subst n0
    unfold q at z
    grind
/-- each number above 0 is in the pair that is told -/
theorem plc_ok {t k : Int} (ht : 1 ≤ t) (hk : 1 ≤ k) : 1 ≤ plc t k ∧ inp t (plc t k) k := by
  obtain ⟨a, b, c⟩ := fnd_spec ht hk
  unfold plc
  by_cases h : les t (fnd t k) = k
  · rw [if_pos h]
    exact ⟨a, .inl h⟩
  · rw [if_neg h]
    obtain ⟨a1, b1, c1⟩ := les_spec ht a
    generalize fnd t k = F at *
    obtain ⟨n, rfl⟩ : ∃ n, F = n + 1 := ⟨F - 1, by omega⟩
    rw [show n + 1 - 1 = n by omega] at *
    -- k < F α, so the lesser number of F is k or more
    have hge : k ≤ les t (n + 1) := by
      rcases Int.lt_or_le (les t (n + 1)) k with z | z
      · exfalso
        -- les - F + 1 ≤ k - F, yet the form is positive there
        have y := q_cmp ht (show 0 ≤ les t (n + 1) - (n + 1) + 1 by omega) (by omega) (by omega) c c1
        have y' := Int.lt_of_mul_lt_mul_right y (by omega)
        omega
      · exact z
    -- m = k - n
    have p2 : q t (k - n) (n + 1) < 0 := by
      rcases Int.lt_or_le (q t (k - n) (n + 1)) 0 with z | z
      · exact z
      · exfalso
        have hkn : 0 ≤ k - n := by
          rcases Int.lt_or_le k n with z | z
          · exfalso
            have y1 : t * (n * (k - n)) ≤ 0 := Int.mul_nonpos_of_nonneg_of_nonpos (by omega) (Int.mul_nonpos_of_nonneg_of_nonpos (by omega) (by omega))
            have y2 : k * k < k * n := Int.mul_lt_mul_of_pos_left z (by omega)
            have y3 : 0 < k * k := Int.mul_pos (by omega) (by omega)
            unfold q at b
            grind
          · omega
        rcases Int.lt_or_eq_of_le z with z | z
        · have y := q_cmp ht hkn (by omega) (by omega) b1 z
          have y' := Int.lt_of_mul_lt_mul_right y (by omega)
          omega
        · have := q_none ht hkn (by omega) z.symm
          omega
    have hm : 1 ≤ k - n := by
      rcases Int.lt_or_le n k with z | z
      · omega
      · exfalso
        have y1 : t * (n * (k - n)) ≤ 0 := Int.mul_nonpos_of_nonneg_of_nonpos (by omega) (Int.mul_nonpos_of_nonneg_of_nonpos (by omega) (by omega))
        have y2 : k * k ≤ k * n := Int.mul_le_mul_of_nonneg_left z (by omega)
        have y3 : 0 < k * k := Int.mul_pos (by omega) (by omega)
        unfold q at b
        grind
    obtain ⟨m, rfl⟩ : ∃ m, k = m + n := ⟨k - n, by omega⟩
    rw [show m + n - n = m by omega] at *
    have htm : t * m ≤ n := by
      rcases Int.lt_or_le n (t * m) with z | z
      · exfalso
        have y1 : (n + 1) * (n + 1) ≤ t * m * (n + 1) := Int.mul_le_mul_of_nonneg_right (by omega) (by omega)
        have y2 : 0 < m * m := Int.mul_pos (by omega) (by omega)
        unfold q at p2
        omega
      · exact z
    have r1 : q t (n - t * m) m < 0 := by unfold q at b ⊢; grind
    have r2 : 0 < q t (n - t * m + 1) m := by unfold q at p2 ⊢; grind
    have e := les_of ht hm (show 0 ≤ n - t * m by omega) r1 r2
    refine ⟨by omega, .inr ?_⟩
    rw [show m + n - (n + 1) + 1 = m by omega]
    unfold oth
    omega
theorem plc_eq {t n x : Int} (ht : 1 ≤ t) (hn : 0 ≤ n) (hx : 1 ≤ x) (h : inp t n x) : plc t x = n := by
  obtain ⟨a, b⟩ := plc_ok ht hx
  exact inp_one ht (by omega) hn hx b h
theorem les_le {t n : Int} (ht : 1 ≤ t) (hn : 0 ≤ n) : les t n ≤ 2 * n := by
  rcases Int.lt_or_le 0 n with z | z
  · obtain ⟨a, b, c⟩ := les_spec ht (show 1 ≤ n by omega)
    have p : 0 < q t n n := by
      have := Int.mul_pos (Int.mul_pos (show 0 < t by omega) z) z
      unfold q
      omega
    have x := q_cmp ht (show 0 ≤ n by omega) (by omega) z b p
    have y := Int.lt_of_mul_lt_mul_right x (by omega)
    omega
  · have : n = 0 := by omega
    subst this
    rw [les0]
    omega
theorem les_nn {t n : Int} (ht : 1 ≤ t) (hn : 0 ≤ n) : 0 ≤ les t n := by
  have := les_ge ht hn
  omega
theorem oth_nn {t n : Int} (ht : 1 ≤ t) (hn : 0 ≤ n) : 0 ≤ oth t n := by
  have := les_nn ht hn
  have := les_le_oth ht hn
  omega
theorem fnd_le {t k : Int} (ht : 1 ≤ t) (hk : 1 ≤ k) : fnd t k ≤ k := by
  obtain ⟨a, b, c⟩ := fnd_spec ht hk
  generalize fnd t k = F at *
  rcases Int.lt_or_le k F with z | z
  · exfalso
    obtain ⟨n, rfl⟩ : ∃ n, F = n + 1 := ⟨F - 1, by omega⟩
    rw [show n + 1 - 1 = n by omega] at *
    have y1 : t * (n * (k - n)) ≤ 0 := Int.mul_nonpos_of_nonneg_of_nonpos (by omega) (Int.mul_nonpos_of_nonneg_of_nonpos (by omega) (by omega))
    have y2 : k * k ≤ k * n := Int.mul_le_mul_of_nonneg_left (by omega) (by omega)
    have y3 : 0 < k * k := Int.mul_pos (by omega) (by omega)
    unfold q at b
    grind
  · exact z
theorem plc_le {t k : Int} (ht : 1 ≤ t) (hk : 1 ≤ k) : plc t k ≤ k := by
  obtain ⟨a, b⟩ := plc_ok ht hk
  have c := les_ge ht (show 0 ≤ plc t k by omega)
  have d := les_le_oth ht (show 0 ≤ plc t k by omega)
  rcases b with b | b <;> omega
end TH

/-! Two heaps: takings, lost heaps, and the taking that is told. -/
namespace TH
/-- a taking of the heaps x, y -/
def Legal (t x y i j : Int) : Prop := 0 ≤ i ∧ 0 ≤ j ∧ ¬ (i = 0 ∧ j = 0) ∧ i ≤ x ∧ j ≤ y ∧ (i = 0 ∨ j = 0 ∨ (i - j < t ∧ j - i < t))
instance (t x y i j : Int) : Decidable (Legal t x y i j) := by unfold Legal; exact inferInstance
/-- the heaps x, y are a lost pair: as the program asks -/
def IsLost (t x y : Int) : Prop := (max x y - min x y) % t = 0 ∧ les t ((max x y - min x y) / t) = min x y
instance (t x y : Int) : Decidable (IsLost t x y) := by unfold IsLost; exact inferInstance
theorem lost_swap {t x y : Int} : IsLost t x y ↔ IsLost t y x := by
  unfold IsLost
  rw [Int.max_comm, Int.min_comm]
theorem legal_swap {t x y i j : Int} : Legal t x y i j ↔ Legal t y x j i := by
  unfold Legal
  omega
theorem div_mul_of {a t : Int} (h : a % t = 0) : t * (a / t) = a := Int.mul_ediv_cancel' (Int.dvd_of_emod_eq_zero h)
theorem lost_oth {t x y : Int} (h : IsLost t x y) : oth t ((max x y - min x y) / t) = max x y := by
  have e := div_mul_of h.1
  have e2 := h.2
  unfold oth
  omega
theorem lost_num {t x y : Int} (ht : 1 ≤ t) : 0 ≤ (max x y - min x y) / t := Int.ediv_nonneg (by omega) (by omega)
theorem lost_of {t n : Int} (ht : 1 ≤ t) (hn : 0 ≤ n) : IsLost t (les t n) (oth t n) := by
  have a := les_le_oth ht hn
  have e1 : max (les t n) (oth t n) = oth t n := by omega
  have e2 : min (les t n) (oth t n) = les t n := by omega
  unfold IsLost
  rw [e1, e2]
  have e3 : oth t n - les t n = t * n := by unfold oth; omega
  rw [e3, Int.mul_emod_right, Int.mul_ediv_cancel_left n (show t ≠ 0 by omega)]
  exact ⟨rfl, rfl⟩
/-- lost heaps: both numbers are in one pair, and of two numbers above 0 just the two of it -/
theorem lost_in {t x y : Int} (h : IsLost t x y) : inp t ((max x y - min x y) / t) x ∧ inp t ((max x y - min x y) / t) y ∧ x + y = les t ((max x y - min x y) / t) + oth t ((max x y - min x y) / t) := by
  have a := h.2
  have b := lost_oth h
  unfold inp
  omega
theorem lost_same {t x y x' y' : Int} (ht : 1 ≤ t) (h : IsLost t x y) (h' : IsLost t x' y') (e : max x y - min x y = max x' y' - min x' y') : x + y = x' + y' := by
  have a := (lost_in h).2.2
  have b := (lost_in h').2.2
  rw [e] at a
  omega
/-- from lost heaps no taking leaves lost ones -/
theorem no_lost {t x y i j : Int} (ht : 1 ≤ t) (h : IsLost t x y) (l : Legal t x y i j) (h' : IsLost t (x - i) (y - j)) : False := by
  obtain ⟨i0, j0, ij, ix, jy, d⟩ := l
  obtain ⟨p1, p2, p3⟩ := lost_in h
  obtain ⟨q1, q2, q3⟩ := lost_in h'
  have n1 := lost_num (x := x) (y := y) ht
  have n2 := lost_num (x := x - i) (y := y - j) ht
  have hA := h.2
  have hB := lost_oth h
  have a1 := div_mul_of h.1
  have a2 := div_mul_of h'.1
  generalize (max x y - min x y) / t = n at *
  generalize (max (x - i) (y - j) - min (x - i) (y - j)) / t = m at *
  -- one number above 0 in both pairs: the same pair, yet the sum is less
  have one : ∀ z : Int, 1 ≤ z → inp t n z → inp t m z → False := fun z hz u v => by
    have e := inp_one ht n1 n2 hz u v
    subst e
    omega
  -- nothing in a heap: the pair is 0, 0
  have nil : min x y = 0 → max x y = 0 := fun e => by
    have g := les_ge ht n1
    have e3 : n = 0 := by omega
    rw [e3, oth0] at hB
    omega
  by_cases zi : i = 0
  · rw [zi, Int.sub_zero] at q1
    rcases Int.lt_or_eq_of_le (show 0 ≤ x by omega) with z | z
    · exact one x (by omega) p1 q1
    · have := nil (by omega)
      omega
  · by_cases zj : j = 0
    · rw [zj, Int.sub_zero] at q2
      rcases Int.lt_or_eq_of_le (show 0 ≤ y by omega) with z | z
      · exact one y (by omega) p2 q2
      · have := nil (by omega)
        omega
    · -- of both: the heaps are as far apart as before
      have d' : i - j < t ∧ j - i < t := by omega
      have key : n = m := by
        rcases Int.lt_trichotomy n m with z | z | z
        · exfalso
          have b := Int.mul_le_mul_of_nonneg_left (show n + 1 ≤ m by omega) (show 0 ≤ t by omega)
          rw [Int.mul_add] at b
          have c := Int.mul_nonneg (show 0 ≤ t by omega) n1
          omega
        · exact z
        · exfalso
          have b := Int.mul_le_mul_of_nonneg_left (show m + 1 ≤ n by omega) (show 0 ≤ t by omega)
          rw [Int.mul_add] at b
          have c := Int.mul_nonneg (show 0 ≤ t by omega) n2
          omega
      subst key
      omega
/-- the taking that is told of the lesser heap and the greater one -/
def tkg (t lo hi : Int) : Int × Int :=
  if lo = 0 then (0, hi)
  else if les t (plc t lo) + oth t (plc t lo) - lo < hi then (0, hi - (les t (plc t lo) + oth t (plc t lo) - lo))
  else (lo - les t ((hi - lo) / t), hi - les t ((hi - lo) / t) - t * ((hi - lo) / t))
theorem tkg_ok {t lo hi : Int} (ht : 1 ≤ t) (h0 : 0 ≤ lo) (h1 : lo ≤ hi) (h : ¬ IsLost t lo hi) : Legal t lo hi (tkg t lo hi).1 (tkg t lo hi).2 ∧ IsLost t (lo - (tkg t lo hi).1) (hi - (tkg t lo hi).2) := by
  unfold tkg
  by_cases z : lo = 0
  · rw [if_pos z]
    subst z
    have hh : hi ≠ 0 := fun e => by
      subst e
      exact h (by
        have := lost_of ht (show (0 : Int) ≤ 0 by omega)
        rwa [les0, oth0] at this)
    refine ⟨?_, ?_⟩
    · show Legal t 0 hi 0 hi
      unfold Legal
      omega
    · show IsLost t (0 - 0) (hi - hi)
      have := lost_of ht (show (0 : Int) ≤ 0 by omega)
      rw [les0, oth0] at this
      rw [Int.sub_self, Int.sub_self]
      exact this
  · rw [if_neg z]
    obtain ⟨p1, p2⟩ := plc_ok ht (show 1 ≤ lo by omega)
    have p3 := les_le_oth ht (show 0 ≤ plc t lo by omega)
    have p4 := lost_of ht (show 0 ≤ plc t lo by omega)
    have p5 := les_ge ht (show 0 ≤ plc t lo by omega)
    generalize plc t lo = n at *
    by_cases c : les t n + oth t n - lo < hi
    · rw [if_pos c]
      refine ⟨?_, ?_⟩
      · show Legal t lo hi 0 (hi - (les t n + oth t n - lo))
        unfold Legal
        unfold inp at p2
        omega
      · show IsLost t (lo - 0) (hi - (hi - (les t n + oth t n - lo)))
        rcases p2 with p2 | p2
        · rw [show lo - 0 = les t n by omega, show hi - (hi - (les t n + oth t n - lo)) = oth t n by omega]
          exact p4
        · rw [show lo - 0 = oth t n by omega, show hi - (hi - (les t n + oth t n - lo)) = les t n by omega]
          exact lost_swap.mp p4
    · rw [if_neg c]
      -- the lesser number is the pair's lesser one, the greater heap less than its partner
      have p6 : les t n = lo := by
        rcases p2 with p2 | p2
        · exact p2
        · exfalso
          have := les_lt_oth ht (show 0 < n by omega)
          omega
      have hlt : hi < oth t n := by
        rcases Int.lt_or_eq_of_le (show hi ≤ oth t n by omega) with z2 | z2
        · exact z2
        · exfalso
          rw [← p6, z2] at h
          exact h p4
      have m0 : 0 ≤ (hi - lo) / t := Int.ediv_nonneg (by omega) (by omega)
      have m1 : t * ((hi - lo) / t) ≤ hi - lo := by
        rw [Int.mul_comm]
        exact Int.ediv_mul_le _ (by omega)
      have m2 : hi - lo < t * ((hi - lo) / t) + t := by
        have := Int.lt_ediv_add_one_mul_self (hi - lo) (show 0 < t by omega)
        rw [Int.mul_comm, Int.mul_add, Int.mul_one] at this
        exact this
      have eo : oth t n = les t n + t * n := rfl
      generalize (hi - lo) / t = m at *
      have mn : m < n := by
        rcases Int.lt_or_le m n with z2 | z2
        · exact z2
        · exfalso
          have := Int.mul_le_mul_of_nonneg_left z2 (show 0 ≤ t by omega)
          omega
      have q1 := les_mono ht m0 mn
      have q2 := les_nn ht m0
      refine ⟨?_, ?_⟩
      · show Legal t lo hi (lo - les t m) (hi - les t m - t * m)
        have := Int.mul_nonneg (show 0 ≤ t by omega) m0
        unfold Legal
        omega
      · show IsLost t (lo - (lo - les t m)) (hi - (hi - les t m - t * m))
        rw [show lo - (lo - les t m) = les t m by omega, show hi - (hi - les t m - t * m) = oth t m by unfold oth; omega]
        exact lost_of ht m0
theorem tkg_bd {t lo hi : Int} (ht : 1 ≤ t) (h0 : 0 ≤ lo) (h1 : lo ≤ hi) : -(2 * hi) ≤ (tkg t lo hi).1 ∧ (tkg t lo hi).1 ≤ hi ∧ -(2 * hi) ≤ (tkg t lo hi).2 ∧ (tkg t lo hi).2 ≤ hi := by
  unfold tkg
  by_cases z : lo = 0
  · rw [if_pos z]
    show -(2 * hi) ≤ 0 ∧ 0 ≤ hi ∧ -(2 * hi) ≤ hi ∧ hi ≤ hi
    omega
  · rw [if_neg z]
    obtain ⟨p1, p2⟩ := plc_ok ht (show 1 ≤ lo by omega)
    have p3 := les_nn ht (show 0 ≤ plc t lo by omega)
    have p4 := oth_nn ht (show 0 ≤ plc t lo by omega)
    generalize plc t lo = n at *
    by_cases c : les t n + oth t n - lo < hi
    · rw [if_pos c]
      show -(2 * hi) ≤ 0 ∧ 0 ≤ hi ∧ -(2 * hi) ≤ hi - (les t n + oth t n - lo) ∧ hi - (les t n + oth t n - lo) ≤ hi
      unfold inp at p2
      omega
    · rw [if_neg c]
      have m0 : 0 ≤ (hi - lo) / t := Int.ediv_nonneg (by omega) (by omega)
      have m1 : t * ((hi - lo) / t) ≤ hi - lo := by
        rw [Int.mul_comm]
        exact Int.ediv_mul_le _ (by omega)
      have m3 : (hi - lo) / t ≤ hi - lo := by
        have := Int.mul_le_mul_of_nonneg_right ht m0
        omega
      have m4 := les_le ht m0
      have m5 := les_nn ht m0
      have m6 := Int.mul_nonneg (show 0 ≤ t by omega) m0
      show -(2 * hi) ≤ lo - les t ((hi - lo) / t) ∧ lo - les t ((hi - lo) / t) ≤ hi ∧ -(2 * hi) ≤ hi - les t ((hi - lo) / t) - t * ((hi - lo) / t) ∧ hi - les t ((hi - lo) / t) - t * ((hi - lo) / t) ≤ hi
      omega
/-- .. of the heaps as they stand -/
def tak (t x y : Int) : Int × Int := if x ≤ y then tkg t x y else ((tkg t y x).2, (tkg t y x).1)
theorem tak_ok {t x y : Int} (ht : 1 ≤ t) (hx : 0 ≤ x) (hy : 0 ≤ y) (h : ¬ IsLost t x y) : Legal t x y (tak t x y).1 (tak t x y).2 ∧ IsLost t (x - (tak t x y).1) (y - (tak t x y).2) := by
  unfold tak
  by_cases c : x ≤ y
  · rw [if_pos c]
    exact tkg_ok ht hx c h
  · rw [if_neg c]
    obtain ⟨a, b⟩ := tkg_ok ht hy (show y ≤ x by omega) (fun z => h (lost_swap.mp z))
    exact ⟨legal_swap.mp a, lost_swap.mp b⟩
theorem tak_bd {t x y : Int} (ht : 1 ≤ t) (hx : 0 ≤ x) (hy : 0 ≤ y) : -(2 * max x y) ≤ (tak t x y).1 ∧ (tak t x y).1 ≤ max x y ∧ -(2 * max x y) ≤ (tak t x y).2 ∧ (tak t x y).2 ≤ max x y := by
  unfold tak
  by_cases c : x ≤ y
  · rw [if_pos c]
    have := tkg_bd ht hx c
    omega
  · rw [if_neg c]
    have := tkg_bd ht hy (show y ≤ x by omega)
    show -(2 * max x y) ≤ (tkg t y x).2 ∧ (tkg t y x).2 ≤ max x y ∧ -(2 * max x y) ≤ (tkg t y x).1 ∧ (tkg t y x).1 ≤ max x y
    omega
/-- by all takings: lost is just what no taking leads from to lost heaps -/
theorem lost_iff {t x y : Int} (ht : 1 ≤ t) (hx : 0 ≤ x) (hy : 0 ≤ y) : IsLost t x y ↔ ∀ i j, Legal t x y i j → ¬ IsLost t (x - i) (y - j) := by
  constructor
  · intro h i j l h'
    exact no_lost ht h l h'
  · intro h
    by_cases c : IsLost t x y
    · exact c
    · obtain ⟨a, b⟩ := tak_ok ht hx hy c
      exact absurd b (h _ _ a)
theorem lost_apart {t x y : Int} (h : IsLost t x y) : (max x y - min x y) / t * t = max x y - min x y := by
  rw [Int.mul_comm]
  exact div_mul_of h.1
end TH

/-! ### rules of our own over the hand layer -/
namespace TH
open PySem PySem.Spec PyProof.Rows L2

/-! #### sizes -/
structure Bd (k : Nat) (i : Int) : Prop where
  out : i.natAbs < 2 ^ k
theorem bd_mono {a b : Nat} {i : Int} (h : Bd a i) (hab : a ≤ b) : Bd b i := ⟨Nat.lt_of_lt_of_le h.out (Nat.pow_le_pow_right (by decide) hab)⟩
theorem bd_mul {a b : Nat} {i j : Int} (ha : Bd a i) (hb : Bd b j) : Bd (a + b) (i * j) := ⟨wide_lt ha.out hb.out⟩
theorem bd_add {a b : Nat} {i j : Int} (ha : Bd a i) (hb : Bd b j) : Bd (max a b + 1) (i + j) := by
  have h1 := (bd_mono ha (Nat.le_max_left a b)).out
  have h2 := (bd_mono hb (Nat.le_max_right a b)).out
  have e : 2 ^ (max a b + 1) = 2 ^ max a b + 2 ^ max a b := by omega
  have h3 := Int.natAbs_add_le i j
  exact ⟨by omega⟩
theorem bd_neg {a : Nat} {i : Int} (ha : Bd a i) : Bd a (-i) := ⟨by
  rw [Int.natAbs_neg]
  exact ha.out⟩
theorem bd_sub {a b : Nat} {i j : Int} (ha : Bd a i) (hb : Bd b j) : Bd (max a b + 1) (i - j) := by
  have h := bd_add ha (bd_neg hb)
  rwa [← Int.sub_eq_add_neg] at h
theorem bd_div {a : Nat} {i j : Int} (ha : Bd a i) (hj : 0 < j) : Bd a (i / j) := by
  have h : (i / j).natAbs ≤ i.natAbs := by
    obtain ⟨k, rfl⟩ := Int.eq_ofNat_of_zero_le (Int.le_of_lt hj)
    exact Int.natAbs_ediv_le_natAbs i k
  exact ⟨Nat.lt_of_le_of_lt h ha.out⟩
theorem bd_mod {b : Nat} {i j : Int} (hb : Bd b j) (hj : 0 < j) : Bd b (i % j) := by
  have h1 := Int.emod_nonneg i (show j ≠ 0 by omega)
  have h2 := Int.emod_lt_of_pos i hj
  have hb' := hb.out
  exact ⟨by omega⟩
theorem bd_le {a : Nat} {i j : Int} (ha : Bd a j) (h0 : 0 ≤ i) (h : i ≤ j) : Bd a i := ⟨wide_le h0 h ha.out⟩
theorem bd_lt {a : Nat} {i : Int} (h0 : 0 ≤ i) (h : i < 2 ^ a) : Bd a i := by
  have e := pow_cast a
  exact ⟨by omega⟩
theorem bd_nn {a : Nat} {i : Int} (h : Bd a i) : i < 2 ^ a := by
  have e := pow_cast a
  have h' := h.out
  omega
theorem bd_max2 {a : Nat} {i j : Int} (ha : Bd a i) (hb : Bd a j) : Bd a (max i j) := by
  rcases Int.le_total i j with h | h
  · rw [Int.max_eq_right h]; exact hb
  · rw [Int.max_eq_left h]; exact ha
theorem bd_max {i j : Int} (ha : Bd 600 i) (hb : Bd 600 j) : Bd 602 (max i j) := bd_mono (bd_max2 ha hb) (by decide)
theorem bd_lit {i : Int} (h : i.natAbs < 2 ^ 140 := by decide) : Bd 140 i := ⟨h⟩
theorem bd_one : Bd 1 1 := ⟨by decide⟩
theorem bits_lt (i : Int) : i.natAbs < 2 ^ Builtin.Int.intBits i := by
  unfold Builtin.Int.intBits
  split
  · rename_i z
    have : i = 0 := by simpa using z
    subst this
    decide
  · exact Nat.lt_log2_self
theorem bd_bits {i : Int} {k : Nat} (h : Builtin.Int.intBits i ≤ k) : Bd k i := bd_mono (a := Builtin.Int.intBits i) ⟨bits_lt i⟩ h
/-! #### readings that ask more of what follows -/
section
variable {X : Cx}
theorem PE.imp {e : Expr} {t t' : TE} (h : PE X e t) (w : ∀ σ H Q, t' σ H Q → t σ H Q) : PE X e t' := ⟨fun pins s σ H Q I hq => h.run pins s σ H Q I (w σ H Q hq)⟩
theorem PA.mon {es : List Expr} {t : TA} (h : PA X es t) : PA X es (fun σ H R => ∃ R0 : List V → Hp → Prop, (∀ xs H1, R0 xs H1 → R xs H1) ∧ t σ H R0) :=
  ⟨fun pos pins s σ H Q I ⟨R0, m, hq⟩ => thn (h.run pos pins s σ H _ I hq) fun us s1 ⟨xs, H1, I1, r1, q1⟩ => ⟨xs, H1, I1, r1, m _ _ q1⟩⟩
theorem Same.new {H : Hp} {p : Addr} {o : HO} (h : H p = none) : Same H (upd H p o) := fun a u e => by
  rw [upd_ne (ne_of_none e h)]
  exact e
/-- a new tuple, a new list: the heap behind it by what is known of it -/
def tTupA (t : TA) : TE := fun σ H Q => t σ H fun xs H1 => xs.length ≤ 64 ∧ ∀ p H2, H1 p = none → Same H1 H2 → H2 p = some (.tup xs) → Q (.ref p) H2
def tLstA (t : TA) : TE := fun σ H Q => t σ H fun xs H1 => xs.length ≤ 64 ∧ ∀ p H2, H1 p = none → Same H1 H2 → H2 p = some (.lst xs) → Q (.ref p) H2
theorem le64 {n : Nat} (h : Nat.ble n 64 = true) : n ≤ 64 := Nat.le_of_ble_eq_true h
theorem le_line {n : Nat} (h : n ≤ 64) : n ≤ sizeLine := Nat.le_trans h (by decide)
theorem pe_tupA {es : List Expr} {t : TA} {pos x1} (h : PA X es t) : PE X (.Tuple es x1 pos) (tTupA t) :=
  PE.imp (pe_tup (PA.mon h)) fun σ H Q hq => ⟨_, fun xs H1 z => ⟨le_line z.1, fun p hp => z.2 p _ hp (Same.new hp) upd_same⟩, hq⟩
theorem pe_lstA {es : List Expr} {t : TA} {pos} (h : PA X es t) : PE X (.List es pos) (tLstA t) :=
  PE.imp (pe_lst (PA.mon h)) fun σ H Q hq => ⟨_, fun xs H1 z => ⟨le_line z.1, fun p hp => z.2 p _ hp (Same.new hp) upd_same⟩, hq⟩

theorem OpR.imp {f : Value → Value → Sem Value} {r r' : R2} (h : OpR X f r) (w : ∀ x y H Q, r' x y H Q → r x y H Q) : OpR X f r' := fun pins s σ H x y v u Q I rx ry hq => h pins s σ H x y v u Q I rx ry (w _ _ _ _ hq)
theorem CallR.imp {f : Value} {r r' : List V → Hp → VK → Prop} (h : CallR X f r) (w : ∀ xs H Q, r' xs H Q → r xs H Q) : CallR X f r' := fun pins s σ H xs us Q I rx hq => h pins s σ H xs us Q I rx (w _ _ _ hq)

/-! #### operators -/
structure CM (i j : Int) : Prop where
  out : ∃ a b, Bd a i ∧ Bd b j ∧ a + b ≤ 134217728
structure CD (i j : Int) : Prop where
  pos : 0 < j
  bd : Bd 9000 j
theorem cm_ok {i j : Int} {a b : Nat} (ha : Bd a i) (hb : Bd b j) (h : Nat.ble (a + b) 134217728 = true) : CM i j := ⟨⟨a, b, ha, hb, Nat.le_of_ble_eq_true h⟩⟩
theorem cd_ok {i j : Int} {b : Nat} (h0 : 0 < j) (hb : Bd b j) (h : Nat.ble b 9000 = true) : CD i j := ⟨h0, bd_mono hb (Nat.le_of_ble_eq_true h)⟩
theorem bd_mono' {a b : Nat} {i : Int} (h : Bd a i) (hab : Nat.ble a b = true) : Bd b i := bd_mono h (Nat.le_of_ble_eq_true hab)
theorem bd_le64 {α : Type} {xs : List α} (h : Nat.ble xs.length 64 = true) : xs.length ≤ 64 := Nat.le_of_ble_eq_true h
theorem oMul : OpR X (binaryOp .Mult) (rI CM fun i j => .int (i * j)) := OpR.imp op_mulX fun x y H Q ⟨i, j, h1, h2, ⟨a, b, ha, hb, hab⟩, q⟩ => ⟨i, j, h1, h2, mulx_ok ha.out hb.out hab, q⟩
theorem oDiv : OpR X (binaryOp .FloorDiv) (rI CD fun i j => .int (i / j)) := OpR.imp op_fdivW fun x y H Q ⟨i, j, h1, h2, ⟨a, b⟩, q⟩ => ⟨i, j, h1, h2, wide_div a b.out (by decide) (by decide), q⟩
theorem oMod : OpR X (binaryOp .Mod) (rI (fun _ j => 0 < j) fun i j => .int (i % j)) := op_mod
theorem dI (i j : Int) : decide (V.int i = V.int j) = decide (i = j) := by
  by_cases e : i = j
  · subst e; simp
  · rw [decide_eq_false e, decide_eq_false fun z => e (V.int.inj z)]
theorem dB (i j : Bool) : decide (V.bl i = V.bl j) = decide (i = j) := by
  cases i <;> cases j <;> rfl
theorem oEq : OpR X (compareOp .Eq) (rI0 fun i j => .bl (decide (i = j))) := OpR.imp op_eq fun x y H Q ⟨i, j, h1, h2, q⟩ => by
  subst h1 h2
  refine ⟨rfl, ?_⟩
  rw [dI]
  exact q
theorem oNe : OpR X (compareOp .NotEq) (rI0 fun i j => .bl (!decide (i = j))) := OpR.imp op_ne fun x y H Q ⟨i, j, h1, h2, q⟩ => by
  subst h1 h2
  refine ⟨rfl, ?_⟩
  rw [dI]
  exact q
def rBb (g : Bool → Bool → Bool) : R2 := fun x y H Q => ∃ i j, x = .bl i ∧ y = .bl j ∧ Q (.bl (g i j)) H
theorem oEqB : OpR X (compareOp .Eq) (rBb fun i j => decide (i = j)) := OpR.imp op_eq fun x y H Q ⟨i, j, h1, h2, q⟩ => by
  subst h1 h2
  refine ⟨rfl, ?_⟩
  rw [dB]
  exact q
theorem oNeB : OpR X (compareOp .NotEq) (rBb fun i j => !decide (i = j)) := OpR.imp op_ne fun x y H Q ⟨i, j, h1, h2, q⟩ => by
  subst h1 h2
  refine ⟨rfl, ?_⟩
  rw [dB]
  exact q

/-- 10 ** 18, 10 ** 40, 10 ** 60 -/
def rP (e : Int) (z : Int) : R2 := fun x y H Q => x = .int 10 ∧ y = .int e ∧ Q (.int z) H
theorem oP18 : OpR X (binaryOp .Pow) (rP 18 1000000000000000000) := OpR.imp op_pow fun x y H Q ⟨h1, h2, q⟩ => ⟨10, 18, h1, h2, ⟨by decide, by decide, by decide⟩, q⟩
theorem oP40 : OpR X (binaryOp .Pow) (rP 40 10000000000000000000000000000000000000000) := OpR.imp op_pow fun x y H Q ⟨h1, h2, q⟩ => ⟨10, 40, h1, h2, ⟨by decide, by decide, by decide⟩, q⟩
theorem oP60 : OpR X (binaryOp .Pow) (rP 60 1000000000000000000000000000000000000000000000000000000000000) := OpR.imp op_pow fun x y H Q ⟨h1, h2, q⟩ => ⟨10, 60, h1, h2, ⟨by decide, by decide, by decide⟩, q⟩
/-! #### isinstance of built-in types -/
theorem kq_int_int {K : PySem.W.Frag} : PySem.W.kitOne K (.type "int") (.type "int") = some true := kit_ty (by decide +kernel)
theorem kq_int_bool {K : PySem.W.Frag} : PySem.W.kitOne K (.type "int") (.type "bool") = some false := kit_ty (by decide +kernel)
theorem kq_int_tuple {K : PySem.W.Frag} : PySem.W.kitOne K (.type "int") (.type "tuple") = some false := kit_ty (by decide +kernel)
theorem kq_bool_int {K : PySem.W.Frag} : PySem.W.kitOne K (.type "bool") (.type "int") = some true := kit_ty (by decide +kernel)
theorem kq_bool_bool {K : PySem.W.Frag} : PySem.W.kitOne K (.type "bool") (.type "bool") = some true := kit_ty (by decide +kernel)
theorem kq_bool_tuple {K : PySem.W.Frag} : PySem.W.kitOne K (.type "bool") (.type "tuple") = some false := kit_ty (by decide +kernel)
theorem kq_tuple_int {K : PySem.W.Frag} : PySem.W.kitOne K (.type "tuple") (.type "int") = some false := kit_ty (by decide +kernel)
theorem kq_tuple_bool {K : PySem.W.Frag} : PySem.W.kitOne K (.type "tuple") (.type "bool") = some false := kit_ty (by decide +kernel)
theorem kq_tuple_tuple {K : PySem.W.Frag} : PySem.W.kitOne K (.type "tuple") (.type "tuple") = some true := kit_ty (by decide +kernel)
theorem kq_NoneType_int {K : PySem.W.Frag} : PySem.W.kitOne K (.type "NoneType") (.type "int") = some false := kit_ty (by decide +kernel)
theorem kq_NoneType_bool {K : PySem.W.Frag} : PySem.W.kitOne K (.type "NoneType") (.type "bool") = some false := kit_ty (by decide +kernel)
theorem kq_NoneType_tuple {K : PySem.W.Frag} : PySem.W.kitOne K (.type "NoneType") (.type "tuple") = some false := kit_ty (by decide +kernel)
theorem kq_str_int {K : PySem.W.Frag} : PySem.W.kitOne K (.type "str") (.type "int") = some false := kit_ty (by decide +kernel)
theorem kq_str_bool {K : PySem.W.Frag} : PySem.W.kitOne K (.type "str") (.type "bool") = some false := kit_ty (by decide +kernel)
theorem kq_str_tuple {K : PySem.W.Frag} : PySem.W.kitOne K (.type "str") (.type "tuple") = some false := kit_ty (by decide +kernel)
theorem kq_list_int {K : PySem.W.Frag} : PySem.W.kitOne K (.type "list") (.type "int") = some false := kit_ty (by decide +kernel)
theorem kq_list_bool {K : PySem.W.Frag} : PySem.W.kitOne K (.type "list") (.type "bool") = some false := kit_ty (by decide +kernel)
theorem kq_list_tuple {K : PySem.W.Frag} : PySem.W.kitOne K (.type "list") (.type "tuple") = some false := kit_ty (by decide +kernel)
theorem kq_dict_int {K : PySem.W.Frag} : PySem.W.kitOne K (.type "dict") (.type "int") = some false := kit_ty (by decide +kernel)
theorem kq_dict_bool {K : PySem.W.Frag} : PySem.W.kitOne K (.type "dict") (.type "bool") = some false := kit_ty (by decide +kernel)
theorem kq_dict_tuple {K : PySem.W.Frag} : PySem.W.kitOne K (.type "dict") (.type "tuple") = some false := kit_ty (by decide +kernel)
theorem kit_own {K : PySem.W.Frag} {D C : Addr} {b : Bool} (h2 : PySem.W.isClsIn K C = true) (h3 : PySem.W.typeIn K (.ref C) = some (.type "type")) (h4 : PySem.W.subIn K (.ref D) (.ref C) = some b) (h5 : PySem.W.subIn K (.ref C) (.ref C) = some true) :
    PySem.W.kitOne K (.ref D) (.ref C) = some b := by
  unfold PySem.W.kitOne
  split
  · rename_i z
    have e : D = C := Value.ref.inj (beq_iff_eq.mp z)
    rw [← h4, e, h5]
  · have e2 : ((PySem.W.clsIn K C).isSome && PySem.W.typeIn K (.ref C) == some (.type "type")) = true := by
      have h2' : (PySem.W.clsIn K C).isSome = true := h2
      rw [h2', h3] <;> rfl
    show (if ((PySem.W.clsIn K C).isSome && PySem.W.typeIn K (.ref C) == some (.type "type")) = true then PySem.W.subIn K (.ref D) (.ref C) else none) = some b
    rw [if_pos e2]
    exact h4
/-! #### the heap's growth -/
theorem same_at {H H' : Hp} {p : Addr} {o : HO} (e : Same H H') (h : H p = some o) : H' p = some o := e _ _ h
theorem same_back {H H1 H2 : Hp} (e : Same H1 H2) (h : Same H H1) : Same H H2 := h.trans e
theorem same_seq {H H' : Hp} {a : Addr} {xs : List V} (e : Same H H') (h : SqL X.K H a xs) : SqL X.K H' a xs := e.seq h
/-! #### pairs -/
/-- at p stands the pair a, b -/
abbrev Pr (H : Hp) (p : Addr) (a b : Int) : Prop := H p = some (.tup [.int a, .int b])
def rPair (g : Int → Int → V) : List V → Hp → VK → Prop := fun xs H Q => ∃ (p : Addr) (a b : Int), xs = [.ref p] ∧ Pr H p a b ∧ Q (g a b) H
theorem pair_holds {h : Heap} {a b : Int} {its : List Value} (r : Vals [.int a, .int b] its) : PySem.W.HoldAll h its ([a, b] : List Int) := by
  cases r with
  | cons r1 r =>
    cases r with
    | cons r2 r =>
      cases r
      obtain ⟨t1, rfl⟩ := r1
      obtain ⟨t2, rfl⟩ := r2
      exact .cons ⟨_, .int _ _⟩ (.cons ⟨_, .int _ _⟩ .nil)
theorem cMinP (hc : X.calm = true) (hu : X.A.units + 1 < cLine) : CallR X (.builtin "min") (rPair fun a b => .int (min a b)) := by
  intro pins s σ H vs us Q I r h
  obtain ⟨p, a, b, rfl, hp, q⟩ := h
  obtain ⟨its, rv, hl, _⟩ := I.tuple (SqT.of hp)
  rw [Vals.ref1 r]
  obtain ⟨o, h1, h2, h3⟩ := hl
  refine PySem.W.min_tuple_datum (α := Int) (I.ok.hd hc) (x := a) (xs := [b]) ⟨o, h1, h2, h3⟩ (by simpa using pair_holds rv) hu fun i v h' tk hi hv hk => ?_
  obtain ⟨as, ra⟩ := hv
  obtain ⟨t, rfl, _⟩ := reads_int_inv ra
  refine ⟨.int _, H, I.kept hk, ⟨_, rfl⟩, ?_⟩
  have e : PySem.W.minOf a [b] = min a b := by
    show (if decide (b < a) = true then b else a) = min a b
    split <;> simp_all <;> omega
  rw [e]
  exact q
theorem cMaxP (hc : X.calm = true) (hu : X.A.units + 1 < cLine) : CallR X (.builtin "max") (rPair fun a b => .int (max a b)) := by
  intro pins s σ H vs us Q I r h
  obtain ⟨p, a, b, rfl, hp, q⟩ := h
  obtain ⟨its, rv, hl, _⟩ := I.tuple (SqT.of hp)
  rw [Vals.ref1 r]
  obtain ⟨o, h1, h2, h3⟩ := hl
  refine PySem.W.max_tuple_datum (α := Int) (I.ok.hd hc) (x := a) (xs := [b]) ⟨o, h1, h2, h3⟩ (by simpa using pair_holds rv) hu fun i v h' tk hi hv hk => ?_
  obtain ⟨as, ra⟩ := hv
  obtain ⟨t, rfl, _⟩ := reads_int_inv ra
  refine ⟨.int _, H, I.kept hk, ⟨_, rfl⟩, ?_⟩
  have e : PySem.W.maxOf a [b] = max a b := by
    show (if decide (a < b) = true then b else a) = max a b
    split <;> simp_all <;> omega
  rw [e]
  exact q
/-- == of two pairs, in a pair -/
def rPP (g : Bool → Bool) : R2 := fun x y H Q => ∃ (p q : Addr) (a b c d : Int), x = .ref p ∧ y = .ref q ∧ Pr H p a b ∧ Pr H q c d ∧ Q (.bl (g (decide (a = c ∧ b = d)))) H
theorem pair_dp {K : PySem.W.Frag} {H : Hp} {p : Addr} {a b : Int} (h : Pr H p a b) : Dp K H (.ref p) (.tuple [.int a, .int b]) := .tup (SqT.of h) (.cons (.int a) (.cons (.int b) .nil))
theorem pair_shaped (a b : Int) : SeqAt.shaped (.tuple [.int a, .int b]) = true := rfl
theorem pair_eqv (a b c d : Int) : PyData.eqv (.tuple [.int a, .int b]) (.tuple [.int c, .int d]) = decide (a = c ∧ b = d) := by
  simp only [PyData.eqv, PyData.eqvAll]
  by_cases h1 : a = c <;> by_cases h2 : b = d <;> simp [h1, h2]
theorem oEqP (hu : X.A.units + 64 < cLine) : OpR X (compareOp .Eq) (rPP id) := OpR.imp (op_eqD hu) fun x y H Q ⟨p, q, a, b, c, d, h1, h2, h3, h4, k⟩ => by
  subst h1 h2
  refine ⟨_, _, pair_dp h3, pair_dp h4, pair_shaped a b, pair_shaped c d, ?_⟩
  rw [pair_eqv]
  exact k
theorem oNeP (hu : X.A.units + 64 < cLine) : OpR X (compareOp .NotEq) (rPP not) := OpR.imp (op_neD hu) fun x y H Q ⟨p, q, a, b, c, d, h1, h2, h3, h4, k⟩ => by
  subst h1 h2
  refine ⟨_, _, pair_dp h3, pair_dp h4, pair_shaped a b, pair_shaped c d, ?_⟩
  rw [pair_eqv]
  exact k
def rInP (g : Bool → Bool) : R2 := fun x y H Q => ∃ (i : Int) (p : Addr) (a b : Int), x = .int i ∧ y = .ref p ∧ Pr H p a b ∧ Q (.bl (g (decide (a = i ∨ b = i)))) H
theorem inV_pair (i a b : Int) : inV (.int i) [.int a, .int b] = decide (a = i ∨ b = i) := by
  show ((a == i) || ((b == i) || false)) = _
  by_cases h1 : a = i <;> by_cases h2 : b = i <;> simp [h1, h2]
theorem oInP : OpR X (compareOp .In) (rInP id) := OpR.imp op_in_seq fun x y H Q ⟨i, p, a, b, h1, h2, h3, k⟩ => by
  subst h1 h2
  refine ⟨p, _, rfl, .inr (SqT.of h3), rfl, rfl, ?_⟩
  rw [inV_pair]
  exact k
theorem oNotInP : OpR X (compareOp .NotIn) (rInP not) := OpR.imp op_notIn_seq fun x y H Q ⟨i, p, a, b, h1, h2, h3, k⟩ => by
  subst h1 h2
  refine ⟨p, _, rfl, .inr (SqT.of h3), rfl, rfl, ?_⟩
  rw [inV_pair]
  exact k
end
end TH


namespace TW
open PySem PySem.Spec PyProof.Rows L2 TH
def primes : List Int := [1000003, 1000033, 1000037, 1000039, 1000081, 1000099, 1000117, 1000121, 1000133, 1000151, 1000159, 1000171, 1000183, 1000187, 1000193, 1000199]
theorem prime_at (k : Int) : ∃ v : Int, atI (primes.map V.int) (k % 16) = some (.int v) ∧ 0 < v := by
  have h0 := Int.emod_nonneg k (show (16 : Int) ≠ 0 by decide)
  have h1 := Int.emod_lt_of_pos k (show (0 : Int) < 16 by decide)
  obtain ⟨j, e⟩ := Int.eq_ofNat_of_zero_le h0
  have hj : j < primes.length := by show j < 16; omega
  refine ⟨primes[j], ?_, (show ∀ v ∈ primes, (0 : Int) < v by decide) _ (List.getElem_mem hj)⟩
  rw [e]
  exact atI_nat (by rw [List.getElem?_map, List.getElem?_eq_getElem hj]; rfl)
end TW

namespace TW
open PySem PySem.Spec PyProof.Rows L2 TH
theorem line_lt {m n : Nat} (h : m ≤ n) (h2 : Nat.ble n 100000 = true) : m < sizeLine := Nat.lt_of_le_of_lt (Nat.le_trans h (Nat.le_of_ble_eq_true h2)) (by decide)
/-- the heaps that were looked at: all of a lesser sum, and of the sum s those whose first number is below a -/
def Done (m s a x y : Int) : Prop := 0 ≤ x ∧ x ≤ m ∧ 0 ≤ y ∧ y ≤ m ∧ (x + y < s ∨ (x + y = s ∧ x < a))
abbrev ky (x y : Int) : List Key := [Sum.inl x, Sum.inl y]
def Tried (t : Int) (kvs : List (List Key × V)) (m s a : Int) : Prop := ∀ x y, (valV kvs (ky x y)).isSome = true ↔ Done m s a x y ∧ IsLost t x y
theorem Tried.to {t : Int} {kvs : List (List Key × V)} {m s a s' a' : Int} (h : Tried t kvs m s a) (w : ∀ x y, Done m s a x y ↔ Done m s' a' x y) : Tried t kvs m s' a' := fun x y => by
  rw [h x y, w x y]
theorem tried0 (t m : Int) : Tried t [] m 0 0 := fun x y => by
  constructor
  · intro h
    cases h
  · rintro ⟨h, _⟩
    unfold Done at h
    omega
theorem ky_inj {x y x' y' : Int} (h : ky x y = ky x' y') : x = x' ∧ y = y' := by
  injection h with h1 h2
  injection h2 with h2 _
  exact ⟨Sum.inl.inj h1, Sum.inl.inj h2⟩
theorem tried_put {t : Int} {kvs : List (List Key × V)} {m s a : Int} {v : V} (h : Tried t kvs m s a) (h0 : 0 ≤ a ∧ a ≤ m ∧ 0 ≤ s - a ∧ s - a ≤ m) (hl : IsLost t a (s - a)) : Tried t (putK kvs (ky a (s - a)) v) m s (a + 1) := fun x y => by
  rw [valV_put]
  by_cases e : ky x y = ky a (s - a)
  · rw [if_pos e]
    obtain ⟨rfl, rfl⟩ := ky_inj e
    exact ⟨fun _ => ⟨by unfold Done; omega, hl⟩, fun _ => rfl⟩
  · rw [if_neg e, h x y]
    have e2 : ¬ (x = a ∧ y = s - a) := fun z => e (by rw [z.1, z.2])
    have w : Done m s a x y ↔ Done m s (a + 1) x y := by unfold Done; omega
    rw [w]
theorem tried_no {t : Int} {kvs : List (List Key × V)} {m s a : Int} (h : Tried t kvs m s a) (hl : ¬ IsLost t a (s - a)) : Tried t kvs m s (a + 1) := fun x y => by
  rw [h x y]
  by_cases e : x = a ∧ y = s - a
  · obtain ⟨rfl, rfl⟩ := e
    exact ⟨fun z => absurd z.2 hl, fun z => absurd z.2 hl⟩
  · have w : Done m s a x y ↔ Done m s (a + 1) x y := by unfold Done; omega
    rw [w]
def Bad (t x y i j : Int) : Prop := Legal t x y i j ∧ IsLost t (x - i) (y - j)
def Ok3 (t x y a : Int) : Prop := ∀ i j, i < a → ¬ Bad t x y i j
def Ok4 (t x y a b : Int) : Prop := Ok3 t x y a ∧ ∀ j, j < b → ¬ Bad t x y a j
theorem ok3_0 (t x y : Int) : Ok3 t x y 0 := fun i j h b => by
  have := b.1.1
  omega
theorem ok4_0 {t x y a : Int} : Ok4 t x y a 0 ↔ Ok3 t x y a := ⟨fun h => h.1, fun h => ⟨h, fun j hj b => by have := b.1.2.1; omega⟩⟩
theorem ok4_step {t x y a b : Int} : Ok4 t x y a (b + 1) ↔ Ok4 t x y a b ∧ ¬ Bad t x y a b := by
  constructor
  · rintro ⟨h1, h2⟩
    exact ⟨⟨h1, fun j hj => h2 j (by omega)⟩, h2 b (by omega)⟩
  · rintro ⟨⟨h1, h2⟩, h3⟩
    refine ⟨h1, fun j hj => ?_⟩
    rcases Int.lt_or_eq_of_le (show j ≤ b by omega) with z | z
    · exact h2 j z
    · rw [z]
      exact h3
theorem ok4_end {t x y a : Int} : Ok4 t x y a (y + 1) ↔ Ok3 t x y (a + 1) := by
  constructor
  · rintro ⟨h1, h2⟩ i j hi b
    rcases Int.lt_or_eq_of_le (show i ≤ a by omega) with z | z
    · exact h1 i j z b
    · subst z
      have := b.1.2.2.2.2.1
      exact h2 j (by omega) b
  · intro h
    exact ⟨fun i j hi => h i j (by omega), fun j _ => h a j (by omega)⟩
theorem ok3_end {t x y : Int} (ht : 1 ≤ t) (hx : 0 ≤ x) (hy : 0 ≤ y) : Ok3 t x y (x + 1) ↔ IsLost t x y := by
  rw [lost_iff ht hx hy]
  constructor
  · intro h i j l b
    have := l.2.2.2.1
    exact h i j (by omega) ⟨l, b⟩
  · intro h i j _ b
    exact h i j b.1 b.2
end TW

set_option hygiene false
local macro_rules | `(tactic| walk_at "hp") => `(tactic| first | assumption | exact upd_same | (refine same_at (by assumption) ?_; walk_at "hp"))
local macro_rules | `(tactic| walk_at "sm") => `(tactic| first | assumption | exact Same.refl _ | (refine same_back (by assumption) ?_; walk_at "sm"))
local macro_rules | `(tactic| walk_at "bd") => `(tactic| first | assumption | exact bd_lit | (apply bd_add; (walk_at "bd"); (walk_at "bd")) | (apply bd_sub; (walk_at "bd"); (walk_at "bd")) | (apply bd_mul; (walk_at "bd"); (walk_at "bd")) | (apply bd_neg; (walk_at "bd")) | (apply bd_mod; (walk_at "bd"); omega) | (apply bd_div; (walk_at "bd"); omega) | fail)
local macro_rules | `(tactic| walk_at "bdm") => `(tactic| (apply bd_mono'; (walk_at "bd"); exact rfl))
local macro_rules | `(tactic| walk_at "side") => `(tactic| first | assumption | omega | (apply cm_ok; (walk_at "bd"); (walk_at "bd"); exact rfl) | (apply cd_ok; omega; (walk_at "bd"); exact rfl) | (apply bd_le64; exact rfl) | (walk_at "bdm") | decide | fail)
local macro_rules | `(tactic| walk_at "is") => `(tactic| first
  | (refine ⟨_, _, _, _, _, rfl, .ty _, .base (.int _), (by first | exact kq_int_int | exact kq_int_bool | exact kq_int_tuple), ?_⟩)
  | (refine ⟨_, _, _, _, _, rfl, .ty _, .base (.bl _), (by first | exact kq_bool_int | exact kq_bool_bool | exact kq_bool_tuple), ?_⟩)
  | (refine ⟨_, _, _, _, _, rfl, .ty _, .base .non, (by first | exact kq_NoneType_int | exact kq_NoneType_bool | exact kq_NoneType_tuple), ?_⟩)
  | (refine ⟨_, _, _, _, _, rfl, .ty _, .base (.str _), (by first | exact kq_str_int | exact kq_str_bool | exact kq_str_tuple), ?_⟩)
  | (refine ⟨_, _, _, _, _, rfl, .ty _, .base (.tup (by walk_at "hp")), (by first | exact kq_tuple_int | exact kq_tuple_bool | exact kq_tuple_tuple), ?_⟩)
  | (refine ⟨_, _, _, _, _, rfl, .ty _, .base (.lst (by walk_at "hp")), (by first | exact kq_list_int | exact kq_list_bool | exact kq_list_tuple), ?_⟩)
  | (refine ⟨_, _, _, _, _, rfl, .ty _, .base (.dK (by walk_at "hp")), (by first | exact kq_dict_int | exact kq_dict_bool | exact kq_dict_tuple), ?_⟩))
local macro_rules | `(tactic| walk_at "ix") => `(tactic| refine ⟨_, _, _, _, rfl, rfl, SqT.of (by walk_at "hp"), rfl, ?_⟩)
local macro_rules | `(tactic| walk_at "sq") => `(tactic| first | assumption | exact SqL.of (by walk_at "hp") | (refine Same.seq (by assumption) ?_; walk_at "sq"))
local macro_rules | `(tactic| walk_at "ln") => `(tactic| first | (refine ⟨_, _, rfl, .inl ⟨_, by walk_at "sq", rfl⟩, ?_⟩) | (refine ⟨_, _, rfl, .inr ⟨_, SqT.of (by walk_at "hp"), rfl⟩, ?_⟩))
local macro_rules | `(tactic| walk_at "pp") => `(tactic| (refine ⟨_, _, _, _, _, _, rfl, rfl, (by walk_at "hp"), (by walk_at "hp"), ?_⟩))
local macro_rules | `(tactic| walk_at "inp") => `(tactic| (refine ⟨_, _, _, _, rfl, rfl, (by walk_at "hp"), ?_⟩))
local macro_rules | `(tactic| walk_at "sl") => `(tactic| refine ⟨_, _, rfl, (show SqL _ _ _ _ by walk_at "sq"), ?_⟩)
local macro_rules | `(tactic| walk_at "pr") => `(tactic| first | refine ⟨_, _, _, rfl, (show _ = _ by walk_at "hp"), ?_⟩ | refine ⟨_, _, _, rfl, (show SqL _ _ _ _ by walk_at "sq"), ?_⟩)
local macro_rules | `(tactic| walk_at "may") => `(tactic| (refine ⟨_, _, _, _, _, _, _, rfl, (show _ = _ by walk_at "hp"), (show _ = _ by walk_at "hp"), ?_⟩))
local macro_rules | `(tactic| walk_at "pr4") => `(tactic| (refine ⟨_, _, _, _, rfl, (show _ = _ by walk_at "hp"), ?_⟩))
local macro_rules | `(tactic| walk_at "tg") => `(tactic| (refine ⟨_, _, rfl, SqT.of (by walk_at "hp"), rfl, ?_⟩))
local macro_rules | `(tactic| walk_at "isc") => `(tactic| first | (refine ⟨_, _, _, _, _, rfl, .own _, T.ins_Lost (by walk_at "hp"), (by first | exact T.k_Lost_Lost | exact T.k_Lost_Won), ?_⟩) | (refine ⟨_, _, _, _, _, rfl, .own _, T.ins_Won (by walk_at "hp"), (by first | exact T.k_Won_Lost | exact T.k_Won_Won), ?_⟩) | fail)
local macro_rules | `(tactic| walk_at "fl") => `(tactic| first | (refine ⟨_, T.a_Lost, _, _, _, rfl, (show _ = _ by walk_at "hp"), T.c_Lost, T.nf_Lost_number, rfl, ?_⟩) | (refine ⟨_, T.a_Won, _, _, _, rfl, (show _ = _ by walk_at "hp"), T.c_Won, T.nf_Won_taking, rfl, ?_⟩) | fail)
local macro_rules | `(tactic| walk_at "rd") => `(tactic| repeat (first
  | (refine ⟨_, rfl, ?_⟩)
  | (refine ⟨_, _, rfl, rfl, ?_⟩)
  | (refine ⟨rfl, rfl, ?_⟩)
  | (walk_at "ix")
  | (walk_at "is")
  | (walk_at "ln")
  | (walk_at "pp")
  | (walk_at "inp")
  | (walk_at "pr")
  | (walk_at "pr4")
  | (walk_at "may")
  | (walk_at "tg")
  | (walk_at "fl")
  | (walk_at "isc")
  | (walk_at "sl")
  | (refine ⟨_, _, rfl, rfl, (by (show (_ : Prop)); walk_at "side"), ?_⟩)
  | (refine ⟨_, _, rfl, ?_⟩)
  | (refine ⟨_, _, _, rfl, ?_⟩)
  | (refine ⟨(by (show (_ : Prop)); walk_at "side"), ?_⟩)
  | (refine ⟨(show ([] : List V) = [] from rfl), ?_⟩)
  | fail))
local macro_rules | `(tactic| walk_at "br") => `(tactic| (refine ite2 (fun c => ?_) (fun c => ?_) <;> simp only [decide_eq_true_eq, Bool.not_eq_true', decide_eq_false_iff_not, Bool.not_eq_true, Bool.true_eq_false, Bool.false_eq_true, Bool.not_true, Bool.not_false, not_true, not_false_eq_true] at c))

namespace TW
open PySem PySem.Spec PyProof.Rows L2 TH

def topS (i : Nat) : Stmt := PySem.Challenge.pw_twoheaps_k03_tried.main.body.getD i (.Pass ⟨0, 0, 0, 0⟩)
abbrev s_is_whole : Stmt := topS 6
theorem sc_is_whole : FnScope ["thing"] ["thing"] (defScope s_is_whole) := ⟨rfl, rfl, rfl, by decide +kernel, rfl, by decide +kernel, by decide +kernel⟩
abbrev s_is_pair : Stmt := topS 7
theorem sc_is_pair : FnScope ["thing"] ["thing"] (defScope s_is_pair) := ⟨rfl, rfl, rfl, by decide +kernel, rfl, by decide +kernel, by decide +kernel⟩
abbrev s_check_bound : Stmt := topS 8
theorem sc_check_bound : FnScope ["bound"] ["bound"] (defScope s_check_bound) := ⟨rfl, rfl, rfl, by decide +kernel, rfl, by decide +kernel, by decide +kernel⟩
abbrev s_check_heaps : Stmt := topS 9
theorem sc_check_heaps : FnScope ["heaps"] ["heaps"] (defScope s_check_heaps) := ⟨rfl, rfl, rfl, by decide +kernel, rfl, by decide +kernel, by decide +kernel⟩
abbrev s_root_of : Stmt := topS 11
theorem sc_root_of : FnScope ["number", "now"] ["number"] (defScope s_root_of) := ⟨rfl, rfl, rfl, by decide +kernel, rfl, by decide +kernel, by decide +kernel⟩
abbrev s_lesser_of : Stmt := topS 12
theorem sc_lesser_of : FnScope ["bound", "number"] ["bound", "number"] (defScope s_lesser_of) := ⟨rfl, rfl, rfl, by decide +kernel, rfl, by decide +kernel, by decide +kernel⟩
abbrev s_pair_of : Stmt := topS 13
theorem sc_pair_of : FnScope ["bound", "number", "least"] ["bound", "number"] (defScope s_pair_of) := ⟨rfl, rfl, rfl, by decide +kernel, rfl, by decide +kernel, by decide +kernel⟩
abbrev s_place_of : Stmt := topS 14
theorem sc_place_of : FnScope ["bound", "number", "found"] ["bound", "number"] (defScope s_place_of) := ⟨rfl, rfl, rfl, by decide +kernel, rfl, by decide +kernel, by decide +kernel⟩
abbrev s_is_lost : Stmt := topS 17
theorem sc_is_lost : FnScope ["bound", "heaps", "apart"] ["bound", "heaps"] (defScope s_is_lost) := ⟨rfl, rfl, rfl, by decide +kernel, rfl, by decide +kernel, by decide +kernel⟩
abbrev s_Lost_init : Stmt := inClass (topS 18) 0
theorem sc_Lost_init : FnScope ["self", "number"] ["self", "number"] (defScope s_Lost_init) := ⟨rfl, rfl, rfl, by decide +kernel, rfl, by decide +kernel, by decide +kernel⟩
abbrev s_Won_init : Stmt := inClass (topS 19) 0
theorem sc_Won_init : FnScope ["self", "taking"] ["self", "taking"] (defScope s_Won_init) := ⟨rfl, rfl, rfl, by decide +kernel, rfl, by decide +kernel, by decide +kernel⟩
abbrev s_taking_of : Stmt := topS 21
theorem sc_taking_of : FnScope ["bound", "low", "high", "pair", "partner", "number", "least"] ["bound", "low", "high"] (defScope s_taking_of) := ⟨rfl, rfl, rfl, by decide +kernel, rfl, by decide +kernel, by decide +kernel⟩
abbrev s_told : Stmt := topS 22
theorem sc_told : FnScope ["bound", "heaps", "low", "high", "mine", "theirs"] ["bound", "heaps"] (defScope s_told) := ⟨rfl, rfl, rfl, by decide +kernel, rfl, by decide +kernel, by decide +kernel⟩
abbrev s__law_cell_at : Stmt := topS 24
theorem sc__law_cell_at : FnScope ["_law_script", "_law_k"] ["_law_script", "_law_k"] (defScope s__law_cell_at) := ⟨rfl, rfl, rfl, by decide +kernel, rfl, by decide +kernel, by decide +kernel⟩
abbrev s__law_draw : Stmt := topS 25
theorem sc__law_draw : FnScope ["_law_cell", "_law_k", "_law_many", "_law_primes"] ["_law_cell", "_law_k", "_law_many"] (defScope s__law_draw) := ⟨rfl, rfl, rfl, by decide +kernel, rfl, by decide +kernel, by decide +kernel⟩
abbrev s__law_may : Stmt := topS 26
theorem sc__law_may : FnScope ["_law_bound", "_law_heaps", "_law_taking"] ["_law_bound", "_law_heaps", "_law_taking"] (defScope s__law_may) := ⟨rfl, rfl, rfl, by decide +kernel, rfl, by decide +kernel, by decide +kernel⟩
abbrev s__law_tried : Stmt := topS 27
theorem sc__law_tried : FnScope ["_law_bound", "_law_most", "_law_lost", "_law_total", "_law_mine", "_law_heaps", "_law_good", "_law_one", "_law_other"] ["_law_bound", "_law_most"] (defScope s__law_tried) := ⟨rfl, rfl, rfl, by decide +kernel, rfl, by decide +kernel, by decide +kernel⟩
abbrev s__law_all_right : Stmt := topS 28
theorem sc__law_all_right : FnScope ["_law_bound", "_law_most", "_law_lost", "_law_mine", "_law_theirs", "_law_found", "_law_taking"] ["_law_bound", "_law_most"] (defScope s__law_all_right) := ⟨rfl, rfl, rfl, by decide +kernel, rfl, by decide +kernel, by decide +kernel⟩
abbrev s_law : Stmt := topS 29
theorem sc_law : FnScope ["_law_script", "_law_cell"] ["_law_script"] (defScope s_law) := ⟨rfl, rfl, rfl, by decide +kernel, rfl, by decide +kernel, by decide +kernel⟩
/-- what the top has written -/
structure Txt (K : PySem.W.Frag) (mg : Str → Option Value) where
  a_Lost : Addr
  a_Won : Addr
  a_is_whole : Addr
  d_is_whole : FuncData
  a_is_pair : Addr
  d_is_pair : FuncData
  a_check_bound : Addr
  d_check_bound : FuncData
  a_check_heaps : Addr
  d_check_heaps : FuncData
  a_root_of : Addr
  d_root_of : FuncData
  a_lesser_of : Addr
  d_lesser_of : FuncData
  a_pair_of : Addr
  d_pair_of : FuncData
  a_place_of : Addr
  d_place_of : FuncData
  a_is_lost : Addr
  d_is_lost : FuncData
  a_Lost_init : Addr
  d_Lost_init : FuncData
  a_Won_init : Addr
  d_Won_init : FuncData
  a_taking_of : Addr
  d_taking_of : FuncData
  a_told : Addr
  d_told : FuncData
  a__law_cell_at : Addr
  d__law_cell_at : FuncData
  a__law_draw : Addr
  d__law_draw : FuncData
  a__law_may : Addr
  d__law_may : FuncData
  a__law_tried : Addr
  d__law_tried : FuncData
  a__law_all_right : Addr
  d__law_all_right : FuncData
  a_law : Addr
  d_law : FuncData
  g_Lost : mg "Lost" = some (.ref a_Lost)
  g_Won : mg "Won" = some (.ref a_Won)
  i_Lost : PySem.W.isClsIn K a_Lost = true
  ty_Lost : PySem.W.typeIn K (.ref a_Lost) = some (.type "type")
  su_Lost_Lost : PySem.W.subIn K (.ref a_Lost) (.ref a_Lost) = some true
  i_Won : PySem.W.isClsIn K a_Won = true
  ty_Won : PySem.W.typeIn K (.ref a_Won) = some (.type "type")
  su_Won_Won : PySem.W.subIn K (.ref a_Won) (.ref a_Won) = some true
  su_Lost_Won : PySem.W.subIn K (.ref a_Lost) (.ref a_Won) = some false
  ha_Lost : PySem.W.findIn K (.ref a_Lost) "__class__" = some (some (.builtin "object.__class__"))
  hm_Lost : PySem.W.mroIn K a_Lost (.type "object") = some true
  su_Won_Lost : PySem.W.subIn K (.ref a_Won) (.ref a_Lost) = some false
  ha_Won : PySem.W.findIn K (.ref a_Won) "__class__" = some (some (.builtin "object.__class__"))
  hm_Won : PySem.W.mroIn K a_Won (.type "object") = some true
  hn : PySem.W.specialIn K (.builtin "object.__class__") "__get__" = some (some (.builtin "getset_descriptor.__get__"))
  htk : PySem.W.takesIn K (.builtin "object.__class__") = some true
  c_Lost : Cls K a_Lost
  m_Lost : Mk K a_Lost a_Lost_init
  nf_Lost_number : NoAttr K a_Lost "number"
  c_Won : Cls K a_Won
  m_Won : Mk K a_Won a_Won_init
  nf_Won_taking : NoAttr K a_Won "taking"
  F_is_whole : Fun K "is_whole" "is_whole" s_is_whole a_is_whole d_is_whole
  g_is_whole : mg "is_whole" = some (.ref a_is_whole)
  b_is_whole : Binds K d_is_whole ["thing"] []
  F_is_pair : Fun K "is_pair" "is_pair" s_is_pair a_is_pair d_is_pair
  g_is_pair : mg "is_pair" = some (.ref a_is_pair)
  b_is_pair : Binds K d_is_pair ["thing"] []
  F_check_bound : Fun K "check_bound" "check_bound" s_check_bound a_check_bound d_check_bound
  g_check_bound : mg "check_bound" = some (.ref a_check_bound)
  b_check_bound : Binds K d_check_bound ["bound"] []
  F_check_heaps : Fun K "check_heaps" "check_heaps" s_check_heaps a_check_heaps d_check_heaps
  g_check_heaps : mg "check_heaps" = some (.ref a_check_heaps)
  b_check_heaps : Binds K d_check_heaps ["heaps"] []
  F_root_of : Fun K "root_of" "root_of" s_root_of a_root_of d_root_of
  g_root_of : mg "root_of" = some (.ref a_root_of)
  b_root_of : Binds K d_root_of ["number"] []
  F_lesser_of : Fun K "lesser_of" "lesser_of" s_lesser_of a_lesser_of d_lesser_of
  g_lesser_of : mg "lesser_of" = some (.ref a_lesser_of)
  b_lesser_of : Binds K d_lesser_of ["bound", "number"] []
  F_pair_of : Fun K "pair_of" "pair_of" s_pair_of a_pair_of d_pair_of
  g_pair_of : mg "pair_of" = some (.ref a_pair_of)
  b_pair_of : Binds K d_pair_of ["bound", "number"] []
  F_place_of : Fun K "place_of" "place_of" s_place_of a_place_of d_place_of
  g_place_of : mg "place_of" = some (.ref a_place_of)
  b_place_of : Binds K d_place_of ["bound", "number"] []
  F_is_lost : Fun K "is_lost" "is_lost" s_is_lost a_is_lost d_is_lost
  g_is_lost : mg "is_lost" = some (.ref a_is_lost)
  b_is_lost : Binds K d_is_lost ["bound", "heaps"] []
  F_Lost_init : Fun K "__init__" "Lost.__init__" s_Lost_init a_Lost_init d_Lost_init
  b_Lost_init : Binds K d_Lost_init ["self", "number"] []
  F_Won_init : Fun K "__init__" "Won.__init__" s_Won_init a_Won_init d_Won_init
  b_Won_init : Binds K d_Won_init ["self", "taking"] []
  F_taking_of : Fun K "taking_of" "taking_of" s_taking_of a_taking_of d_taking_of
  g_taking_of : mg "taking_of" = some (.ref a_taking_of)
  b_taking_of : Binds K d_taking_of ["bound", "low", "high"] []
  F_told : Fun K "told" "told" s_told a_told d_told
  g_told : mg "told" = some (.ref a_told)
  b_told : Binds K d_told ["bound", "heaps"] []
  F__law_cell_at : Fun K "_law_cell_at" "_law_cell_at" s__law_cell_at a__law_cell_at d__law_cell_at
  g__law_cell_at : mg "_law_cell_at" = some (.ref a__law_cell_at)
  b__law_cell_at : Binds K d__law_cell_at ["_law_script", "_law_k"] []
  F__law_draw : Fun K "_law_draw" "_law_draw" s__law_draw a__law_draw d__law_draw
  g__law_draw : mg "_law_draw" = some (.ref a__law_draw)
  b__law_draw : Binds K d__law_draw ["_law_cell", "_law_k", "_law_many"] []
  F__law_may : Fun K "_law_may" "_law_may" s__law_may a__law_may d__law_may
  g__law_may : mg "_law_may" = some (.ref a__law_may)
  b__law_may : Binds K d__law_may ["_law_bound", "_law_heaps", "_law_taking"] []
  F__law_tried : Fun K "_law_tried" "_law_tried" s__law_tried a__law_tried d__law_tried
  g__law_tried : mg "_law_tried" = some (.ref a__law_tried)
  b__law_tried : Binds K d__law_tried ["_law_bound", "_law_most"] []
  F__law_all_right : Fun K "_law_all_right" "_law_all_right" s__law_all_right a__law_all_right d__law_all_right
  g__law_all_right : mg "_law_all_right" = some (.ref a__law_all_right)
  b__law_all_right : Binds K d__law_all_right ["_law_bound", "_law_most"] []
  F_law : Fun K "law" "law" s_law a_law d_law
  g_law : mg "law" = some (.ref a_law)
  b_law : Binds K d_law ["_law_script"] []
  n_isinstance : mg "isinstance" = none
  n_len : mg "len" = none
  n_max : mg "max" = none
  n_min : mg "min" = none
  n_abs : mg "abs" = none
  n_int : mg "int" = none
  n_bool : mg "bool" = none
  n_tuple : mg "tuple" = none
  n_range : mg "range" = none
theorem Txt.ins_Lost {K : PySem.W.Frag} {mg : Str → Option Value} (T : Txt K mg) {H : Hp} {p dx : Addr} {fs : List (Str × V)} (e : H p = some (.ins T.a_Lost dx fs)) : TyX K H (.ref p) (.ref T.a_Lost) := .base (.ins e T.c_Lost T.ha_Lost T.hn T.htk T.hm_Lost)
theorem Txt.k_Lost_Lost {K : PySem.W.Frag} {mg : Str → Option Value} (T : Txt K mg) : PySem.W.kitOne K (.ref T.a_Lost) (.ref T.a_Lost) = some true := kit_own T.i_Lost T.ty_Lost T.su_Lost_Lost T.su_Lost_Lost
theorem Txt.k_Lost_Won {K : PySem.W.Frag} {mg : Str → Option Value} (T : Txt K mg) : PySem.W.kitOne K (.ref T.a_Lost) (.ref T.a_Won) = some false := kit_own T.i_Won T.ty_Won T.su_Lost_Won T.su_Won_Won
theorem Txt.ins_Won {K : PySem.W.Frag} {mg : Str → Option Value} (T : Txt K mg) {H : Hp} {p dx : Addr} {fs : List (Str × V)} (e : H p = some (.ins T.a_Won dx fs)) : TyX K H (.ref p) (.ref T.a_Won) := .base (.ins e T.c_Won T.ha_Won T.hn T.htk T.hm_Won)
theorem Txt.k_Won_Lost {K : PySem.W.Frag} {mg : Str → Option Value} (T : Txt K mg) : PySem.W.kitOne K (.ref T.a_Won) (.ref T.a_Lost) = some false := kit_own T.i_Lost T.ty_Lost T.su_Won_Lost T.su_Lost_Lost
theorem Txt.k_Won_Won {K : PySem.W.Frag} {mg : Str → Option Value} (T : Txt K mg) : PySem.W.kitOne K (.ref T.a_Won) (.ref T.a_Won) = some true := kit_own T.i_Won T.ty_Won T.su_Won_Won T.su_Won_Won

section
variable {P : Program} {w : World} {K : PySem.W.Frag} {mg : Str → Option Value} {base : Heap}

def sp_is_whole  : Sp := fun vs H Q E => ∃ (i : Int), vs = [.int i] ∧ Q (.bl true) H
theorem ok_is_whole (T : Txt K mg) : FnOk P w K mg base CX0 1 T.a_is_whole T.d_is_whole ["thing"] (sp_is_whole ) := by
  refine T.F_is_whole.ok sc_is_whole (fun vs H Q E h => ?_) (fun cdv A outer s H vs Q E hr h => ?_)
  · obtain ⟨_, rfl, _⟩ := h
    rfl
  · have hu := hu_of hr
    obtain ⟨i, rfl, q⟩ := h
    refine ⟨_, (pss_one (ps_ret (pe_and (pe_callB call_isi (by rfl) T.n_isinstance (by decide +kernel) (pa_cons (pv 0) (pa_cons (pe_bltn (v := .ty "int") (by rfl) T.n_int (by decide +kernel) rfl) pa_nil))) (pe_one (pe_not (pe_callB call_isi (by rfl) T.n_isinstance (by decide +kernel) (pa_cons (pv 0) (pa_cons (pe_bltn (v := .ty "bool") (by rfl) T.n_bool (by decide +kernel) rfl) pa_nil)))))))), ?_⟩
    walk_at "rd"
    exact q

def sp_is_pair  : Sp := fun vs H Q E => ∃ (p : Addr) (a b : Int), vs = [.ref p] ∧ Pr H p a b ∧ Q (.bl true) H
theorem ok_is_pair (T : Txt K mg) : FnOk P w K mg base CX0 2 T.a_is_pair T.d_is_pair ["thing"] (sp_is_pair ) := by
  refine T.F_is_pair.ok sc_is_pair (fun vs H Q E h => ?_) (fun cdv A outer s H vs Q E hr h => ?_)
  · obtain ⟨_, _, _, rfl, _⟩ := h
    rfl
  · have hu := hu_of hr
    obtain ⟨p, a, b, rfl, hp, q⟩ := h
    refine ⟨_, (pss_one (ps_ret (pe_and (pe_callB call_isi (by rfl) T.n_isinstance (by decide +kernel) (pa_cons (pv 0) (pa_cons (pe_bltn (v := .ty "tuple") (by rfl) T.n_tuple (by decide +kernel) rfl) pa_nil))) (pe_and (pe_cmpR oEq (pe_callB call_len (by rfl) T.n_len (by decide +kernel) (pa_cons (pv 0) pa_nil)) pe_int (nomark _)) (pe_and (pe_call (ok_is_whole (P := P) (w := w) (base := base) T) (hr.mono (by decide : 1 ≤ _)) (by rfl) T.g_is_whole T.F_is_whole.kp T.b_is_whole .nil pass0 (pa_cons (pe_ix ix_tup (pv 0) pe_int (fun _ _ => rfl)) pa_nil)) (pe_one (pe_call (ok_is_whole (P := P) (w := w) (base := base) T) (hr.mono (by decide : 1 ≤ _)) (by rfl) T.g_is_whole T.F_is_whole.kp T.b_is_whole .nil pass0 (pa_cons (pe_ix ix_tup (pv 0) pe_int (fun _ _ => rfl)) pa_nil)))))))), ?_⟩
    walk_at "rd"
    exact q

def sp_check_bound  : Sp := fun vs H Q E => ∃ (t : Int), vs = [.int t] ∧ 1 ≤ t ∧ Q .non H
theorem ok_check_bound (T : Txt K mg) : FnOk P w K mg base CX0 2 T.a_check_bound T.d_check_bound ["bound"] (sp_check_bound ) := by
  refine T.F_check_bound.ok sc_check_bound (fun vs H Q E h => ?_) (fun cdv A outer s H vs Q E hr h => ?_)
  · obtain ⟨_, rfl, _⟩ := h
    rfl
  · have hu := hu_of hr
    obtain ⟨t, rfl, ht, q⟩ := h
    refine ⟨_, (pss_one (ps_if (PW.pt (pw_or (pt_not (pt_val (pe_call (ok_is_whole (P := P) (w := w) (base := base) T) (hr.mono (by decide : 1 ≤ _)) (by rfl) T.g_is_whole T.F_is_whole.kp T.b_is_whole .nil pass0 (pa_cons (pv 0) pa_nil)))) (pw_or1 (pt_cmpR op_lt (pv 0) pe_int (nomark _))))) (pss_one (ps_never)) pss_nil)), ?_⟩
    walk_at "rd"
    refine ite2 (fun c => ?_) (fun c => ?_)
    · have := of_decide_eq_true c
      omega
    · exact q

def sp_check_heaps  : Sp := fun vs H Q E => ∃ (p : Addr) (x y : Int), vs = [.ref p] ∧ Pr H p x y ∧ 0 ≤ x ∧ 0 ≤ y ∧ Q .non H
theorem ok_check_heaps (T : Txt K mg) : FnOk P w K mg base CX0 3 T.a_check_heaps T.d_check_heaps ["heaps"] (sp_check_heaps ) := by
  refine T.F_check_heaps.ok sc_check_heaps (fun vs H Q E h => ?_) (fun cdv A outer s H vs Q E hr h => ?_)
  · obtain ⟨_, _, _, rfl, _⟩ := h
    rfl
  · have hu := hu_of hr
    obtain ⟨p, x, y, rfl, hp, hx, hy, q⟩ := h
    refine ⟨_, (pss_one (ps_if (PW.pt (pw_or (pt_not (pt_val (pe_call (ok_is_pair (P := P) (w := w) (base := base) T) (hr.mono (by decide : 2 ≤ _)) (by rfl) T.g_is_pair T.F_is_pair.kp T.b_is_pair .nil pass0 (pa_cons (pv 0) pa_nil)))) (pw_or1 (pt_cmpR op_lt (pe_callB (cMinP rfl hu) (by rfl) T.n_min (by decide +kernel) (pa_cons (pv 0) pa_nil)) pe_int (nomark _))))) (pss_one (ps_never)) pss_nil)), ?_⟩
    walk_at "rd"
    refine ite2 (fun c => ?_) (fun c => ?_)
    · have := of_decide_eq_true c
      omega
    · exact q

def sp_root_of  : Sp := fun vs H Q E => ∃ (n : Int), vs = [.int n] ∧ 0 ≤ n ∧ Bd 8000 n ∧ Q (.int (rt n)) H
theorem ok_root_of (T : Txt K mg) : FnOk P w K mg base CX0 1 T.a_root_of T.d_root_of ["number"] (sp_root_of ) := by
  refine T.F_root_of.ok sc_root_of (fun vs H Q E h => ?_) (fun cdv A outer s H vs Q E hr h => ?_)
  · obtain ⟨_, rfl, _⟩ := h
    rfl
  · have hu := hu_of hr
    obtain ⟨n, rfl, hn, bn, q⟩ := h
    refine ⟨_, (pss_cons (ps_if (pt_cmpR oEq (pv 0) pe_int (nomark _)) (pss_one (ps_ret pe_int)) pss_nil) (pss_cons (ps_set (i := 1) sc_root_of.nd rfl (Or.inl rfl) (pe_op op_shlW pe_int (pe_op oDiv (pe_op op_add (pe_bits (pv 0)) pe_int) pe_int))) (pss_cons (ps_while PassesOwn.never (pt_cmpR op_gt (pe_op oMul (pv 1) (pv 1)) (pv 0) (nomark _)) (pss_one (ps_set (i := 1) sc_root_of.nd rfl (Or.inl rfl) (pe_op oDiv (pe_op op_add (pv 1) (pe_op oDiv (pv 0) (pv 1))) pe_int)))) (pss_one (ps_ret (pv 1)))))), ?_⟩
    walk_at "rd"
    refine ite2 (fun c => ?_) (fun c => ?_)
    · have e := of_decide_eq_true c
      subst e
      exact q
    · have c : n ≠ 0 := fun z => c (decide_eq_true z)
      walk_at "rd"
      have hb := intBits_le bn.out
      have hn2 := bits_lt n
      obtain ⟨s1, s2⟩ := newton_start hn hn2
      generalize Builtin.Int.intBits n = b at *
      have e : ((b : Int) + 1) / 2 = (((b + 1) / 2 : Nat) : Int) := by omega
      have cs : CShl 1 (((b : Int) + 1) / 2) := by
        rw [e]
        exact shl_ok (n := 1) (by decide) (by omega)
      have bx : Bd 8020 ((1 : Int) * 2 ^ (((b : Int) + 1) / 2).toNat) := by
        have e2 : (((b : Int) + 1) / 2).toNat = (b + 1) / 2 := by omega
        rw [e2, Int.one_mul, ← pow_cast]
        refine ⟨?_⟩
        rw [Int.natAbs_natCast]
        exact Nat.pow_lt_pow_right (by decide) (by omega)
      refine ⟨cs, ?_⟩
      refine ⟨fun m σ H' => H' = H ∧ ∃ x : Int, σ = [some (.int n), some (.int x)] ∧ 0 ≤ x ∧ rt n ≤ x ∧ Bd 8020 x ∧ m = x.toNat, ⟨_, rfl, _, rfl, s1, s2, bx, rfl⟩, ?_⟩
      rintro m σ H' ⟨rfl, x, rfl, hx, hr', bx, rfl⟩
      walk_at "rd"
      refine ite2 (fun c => ?_) (fun c => ?_)
      · have c := of_decide_eq_true c
        obtain ⟨n1, n2, n3, n4⟩ := newton hn hx hr' c
        refine ⟨fun σ' H2 => H2 = H' ∧ ∃ y : Int, σ' = [some (.int n), some (.int y)] ∧ 0 ≤ y ∧ rt n ≤ y ∧ Bd 8020 y ∧ y < x, ?_, ?_⟩
        · rintro σ' H2 ⟨rfl, y, rfl, y1, y2, y3, y4⟩
          exact ⟨y.toNat, by omega, rfl, y, rfl, y1, y2, y3, rfl⟩
        · walk_at "rd"
          exact ⟨rfl, _, rfl, n2, n3, bd_le bx n2 (by omega), n4⟩
      · have e := newton_end hn hr' (fun z => c (decide_eq_true z))
        walk_at "rd"
        rw [e]
        exact q

def sp_lesser_of  : Sp := fun vs H Q E => ∃ (t n : Int), vs = [.int t, .int n] ∧ Bd 900 t ∧ Bd 900 n ∧ Q (.int (les t n)) H
theorem ok_lesser_of (T : Txt K mg) : FnOk P w K mg base CX0 2 T.a_lesser_of T.d_lesser_of ["bound", "number"] (sp_lesser_of ) := by
  refine T.F_lesser_of.ok sc_lesser_of (fun vs H Q E h => ?_) (fun cdv A outer s H vs Q E hr h => ?_)
  · obtain ⟨_, _, rfl, _⟩ := h
    rfl
  · have hu := hu_of hr
    obtain ⟨t, n, rfl, bt, bn, q⟩ := h
    refine ⟨_, (pss_one (ps_ret (pe_op oDiv (pe_op op_add (pe_op oMul (pv 1) (pe_op op_sub pe_int (pv 0))) (pe_call (ok_root_of (P := P) (w := w) (base := base) T) (hr.mono (by decide : 1 ≤ _)) (by rfl) T.g_root_of T.F_root_of.kp T.b_root_of .nil pass0 (pa_cons (pe_op oMul (pe_op oMul (pv 1) (pv 1)) (pe_op op_add (pe_op oMul (pv 0) (pv 0)) pe_int)) pa_nil))) pe_int))), ?_⟩
    walk_at "rd"
    have hd := disc_nn t n
    walk_at "rd"
    exact q

def sp_pair_of  : Sp := fun vs H Q E => ∃ (t n : Int), vs = [.int t, .int n] ∧ Bd 900 t ∧ Bd 900 n ∧ ∀ p H2, H p = none → Same H H2 → Pr H2 p (les t n) (oth t n) → Q (.ref p) H2
theorem ok_pair_of (T : Txt K mg) : FnOk P w K mg base CX0 3 T.a_pair_of T.d_pair_of ["bound", "number"] (sp_pair_of ) := by
  refine T.F_pair_of.ok sc_pair_of (fun vs H Q E h => ?_) (fun cdv A outer s H vs Q E hr h => ?_)
  · obtain ⟨_, _, rfl, _⟩ := h
    rfl
  · have hu := hu_of hr
    obtain ⟨t, n, rfl, bt, bn, q⟩ := h
    refine ⟨_, (pss_cons (ps_set (i := 2) sc_pair_of.nd rfl (Or.inl rfl) (pe_call (ok_lesser_of (P := P) (w := w) (base := base) T) (hr.mono (by decide : 2 ≤ _)) (by rfl) T.g_lesser_of T.F_lesser_of.kp T.b_lesser_of .nil pass0 (pa_cons (pv 0) (pa_cons (pv 1) pa_nil)))) (pss_one (ps_ret (pe_tupA (pa_cons (pv 2) (pa_cons (pe_op op_add (pv 2) (pe_op oMul (pv 0) (pv 1))) pa_nil)))))), ?_⟩
    walk_at "rd"
    exact fun p H2 np e hp => q p H2 np e hp

def sp_place_of  : Sp := fun vs H Q E => ∃ (t k : Int), vs = [.int t, .int k] ∧ 1 ≤ t ∧ 1 ≤ k ∧ Bd 700 t ∧ Bd 700 k ∧ Q (.int (plc t k)) H
theorem ok_place_of (T : Txt K mg) : FnOk P w K mg base CX0 3 T.a_place_of T.d_place_of ["bound", "number"] (sp_place_of ) := by
  refine T.F_place_of.ok sc_place_of (fun vs H Q E h => ?_) (fun cdv A outer s H vs Q E hr h => ?_)
  · obtain ⟨_, _, rfl, _⟩ := h
    rfl
  · have hu := hu_of hr
    obtain ⟨t, k, rfl, ht, hk, bt, bk, q⟩ := h
    refine ⟨_, (pss_cons (ps_set (i := 2) sc_place_of.nd rfl (Or.inl rfl) (pe_op op_add (pe_op oDiv (pe_op op_add (pe_call (ok_root_of (P := P) (w := w) (base := base) T) (hr.mono (by decide : 1 ≤ _)) (by rfl) T.g_root_of T.F_root_of.kp T.b_root_of .nil pass0 (pa_cons (pe_op oMul (pe_op oMul (pv 1) (pv 1)) (pe_op op_add (pe_op oMul (pv 0) (pv 0)) pe_int)) pa_nil)) (pe_op oMul (pv 1) (pe_op op_sub (pv 0) pe_int))) (pe_op oMul pe_int (pv 0))) pe_int)) (pss_cons (ps_if (pt_cmpR oEq (pe_call (ok_lesser_of (P := P) (w := w) (base := base) T) (hr.mono (by decide : 2 ≤ _)) (by rfl) T.g_lesser_of T.F_lesser_of.kp T.b_lesser_of .nil pass0 (pa_cons (pv 0) (pa_cons (pv 2) pa_nil))) (pv 1) (nomark _)) (pss_one (ps_ret (pv 2))) pss_nil) (pss_one (ps_ret (pe_op op_add (pe_op op_sub (pv 1) (pv 2)) pe_int))))), ?_⟩
    have hd := disc_nn t k
    walk_at "rd"
    have hf := fnd_spec ht hk
    have hf2 := fnd_le ht hk
    have bf : Bd 900 (fnd t k) := bd_mono (bd_le bk (by omega) hf2) (by decide)
    refine ⟨bf, ?_⟩
    walk_at "rd"
    refine ite2 (fun c => ?_) (fun c => ?_)
    · have e := of_decide_eq_true c
      walk_at "rd"
      have z : plc t k = fnd t k := if_pos e
      rw [z] at q
      exact q
    · have e : ¬ les t (fnd t k) = k := fun z => c (decide_eq_true z)
      walk_at "rd"
      have z : plc t k = k - fnd t k + 1 := if_neg e
      rw [z] at q
      exact q

def sp_is_lost  : Sp := fun vs H Q E => ∃ (t : Int) (p : Addr) (x y : Int), vs = [.int t, .ref p] ∧ Pr H p x y ∧ 1 ≤ t ∧ 0 ≤ x ∧ 0 ≤ y ∧ Bd 600 t ∧ Bd 600 x ∧ Bd 600 y ∧ ∀ H2, Same H H2 → Q (.bl (decide (IsLost t x y))) H2
theorem ok_is_lost (T : Txt K mg) : FnOk P w K mg base CX0 4 T.a_is_lost T.d_is_lost ["bound", "heaps"] (sp_is_lost ) := by
  refine T.F_is_lost.ok sc_is_lost (fun vs H Q E h => ?_) (fun cdv A outer s H vs Q E hr h => ?_)
  · obtain ⟨_, _, _, _, rfl, _⟩ := h
    rfl
  · have hu := hu_of hr
    obtain ⟨t, p, x, y, rfl, hp, ht, hx, hy, bt, bx, by_, q⟩ := h
    refine ⟨_, (pss_cons (ps_set (i := 2) sc_is_lost.nd rfl (Or.inl rfl) (pe_op op_sub (pe_callB (cMaxP rfl hu) (by rfl) T.n_max (by decide +kernel) (pa_cons (pv 1) pa_nil)) (pe_callB (cMinP rfl hu) (by rfl) T.n_min (by decide +kernel) (pa_cons (pv 1) pa_nil)))) (pss_one (ps_ret (pe_and (pe_cmpR oEq (pe_op oMod (pv 2) (pv 0)) pe_int (nomark _)) (pe_one (pe_cmpR oEq (pe_ix ix_tup (pe_call (ok_pair_of (P := P) (w := w) (base := base) T) (hr.mono (by decide : 3 ≤ _)) (by rfl) T.g_pair_of T.F_pair_of.kp T.b_pair_of .nil pass0 (pa_cons (pv 0) (pa_cons (pe_op oDiv (pv 2) (pv 0)) pa_nil))) pe_int (fun _ _ => rfl)) (pe_callB (cMinP rfl hu) (by rfl) T.n_min (by decide +kernel) (pa_cons (pv 1) pa_nil)) (nomark _))))))), ?_⟩
    have bm : Bd 602 (max x y - min x y) := bd_le (j := max x y) (bd_max bx by_) (by omega) (by omega)
    walk_at "rd"
    refine ite2 (fun c => ?_) (fun c => ?_)
    · have c := of_decide_eq_true c
      walk_at "rd"
      intro p1 H1 np1 e1 hp1
      walk_at "rd"
      have z : decide (IsLost t x y) = decide (les t ((max x y - min x y) / t) = min x y) := decide_eq_decide.mpr ⟨fun h => h.2, fun h => ⟨c, h⟩⟩
      rw [z] at q
      exact q _ (by walk_at "sm")
    · have z : decide (IsLost t x y) = false := decide_eq_false fun h => c (decide_eq_true h.1)
      rw [z] at q
      exact q _ (by walk_at "sm")

def sp_Lost_init (CC : Addr) : Sp := fun vs H Q E => ∃ (p dx : Addr) (v : V), vs = [.ref p, v] ∧ H p = some (.ins CC dx []) ∧ ∀ H2, H2 p = some (.ins CC dx [("number", v)]) → (∀ b o, b ≠ p → H b = some o → H2 b = some o) → Q .non H2
theorem ok_Lost_init (T : Txt K mg) : FnOk P w K mg base CX0 1 T.a_Lost_init T.d_Lost_init ["self", "number"] (sp_Lost_init T.a_Lost) := by
  refine T.F_Lost_init.ok sc_Lost_init (fun vs H Q E h => ?_) (fun cdv A outer s H vs Q E hr h => ?_)
  · obtain ⟨_, _, _, rfl, _⟩ := h
    rfl
  · have hu := hu_of hr
    obtain ⟨p, dx, v, rfl, hp, q⟩ := h
    refine ⟨_, (pss_one (ps_fld (pv 0) (pv 1) rfl)), ?_⟩
    walk_at "rd"
    exact ⟨T.c_Lost, T.nf_Lost_number, (by decide), q _ upd_same fun b o nb hb => by rw [upd_ne nb]; exact hb⟩

def sp_Won_init (CC : Addr) : Sp := fun vs H Q E => ∃ (p dx : Addr) (v : V), vs = [.ref p, v] ∧ H p = some (.ins CC dx []) ∧ ∀ H2, H2 p = some (.ins CC dx [("taking", v)]) → (∀ b o, b ≠ p → H b = some o → H2 b = some o) → Q .non H2
theorem ok_Won_init (T : Txt K mg) : FnOk P w K mg base CX0 1 T.a_Won_init T.d_Won_init ["self", "taking"] (sp_Won_init T.a_Won) := by
  refine T.F_Won_init.ok sc_Won_init (fun vs H Q E h => ?_) (fun cdv A outer s H vs Q E hr h => ?_)
  · obtain ⟨_, _, _, rfl, _⟩ := h
    rfl
  · have hu := hu_of hr
    obtain ⟨p, dx, v, rfl, hp, q⟩ := h
    refine ⟨_, (pss_one (ps_fld (pv 0) (pv 1) rfl)), ?_⟩
    walk_at "rd"
    exact ⟨T.c_Won, T.nf_Won_taking, (by decide), q _ upd_same fun b o nb hb => by rw [upd_ne nb]; exact hb⟩

def sp_taking_of  : Sp := fun vs H Q E => ∃ (t lo hi : Int), vs = [.int t, .int lo, .int hi] ∧ 1 ≤ t ∧ 0 ≤ lo ∧ lo ≤ hi ∧ Bd 600 t ∧ Bd 600 hi ∧ ∀ p H2, H p = none → Same H H2 → Pr H2 p (tkg t lo hi).1 (tkg t lo hi).2 → Q (.ref p) H2
theorem ok_taking_of (T : Txt K mg) : FnOk P w K mg base CX0 4 T.a_taking_of T.d_taking_of ["bound", "low", "high"] (sp_taking_of ) := by
  refine T.F_taking_of.ok sc_taking_of (fun vs H Q E h => ?_) (fun cdv A outer s H vs Q E hr h => ?_)
  · obtain ⟨_, _, _, rfl, _⟩ := h
    rfl
  · have hu := hu_of hr
    obtain ⟨t, lo, hi, rfl, ht, h0, h1, bt, bh, q⟩ := h
    refine ⟨_, (pss_cons (ps_if (pt_cmpR oEq (pv 1) pe_int (nomark _)) (pss_one (ps_ret (pe_tupA (pa_cons pe_int (pa_cons (pv 2) pa_nil))))) pss_nil) (pss_cons (ps_set (i := 3) sc_taking_of.nd rfl (Or.inl rfl) (pe_call (ok_pair_of (P := P) (w := w) (base := base) T) (hr.mono (by decide : 3 ≤ _)) (by rfl) T.g_pair_of T.F_pair_of.kp T.b_pair_of .nil pass0 (pa_cons (pv 0) (pa_cons (pe_call (ok_place_of (P := P) (w := w) (base := base) T) (hr.mono (by decide : 3 ≤ _)) (by rfl) T.g_place_of T.F_place_of.kp T.b_place_of .nil pass0 (pa_cons (pv 0) (pa_cons (pv 1) pa_nil))) pa_nil)))) (pss_cons (ps_set (i := 4) sc_taking_of.nd rfl (Or.inl rfl) (pe_op op_sub (pe_op op_add (pe_ix ix_tup (pv 3) pe_int (fun _ _ => rfl)) (pe_ix ix_tup (pv 3) pe_int (fun _ _ => rfl))) (pv 1))) (pss_cons (ps_if (pt_cmpR op_lt (pv 4) (pv 2) (nomark _)) (pss_one (ps_ret (pe_tupA (pa_cons pe_int (pa_cons (pe_op op_sub (pv 2) (pv 4)) pa_nil))))) pss_nil) (pss_cons (ps_set (i := 5) sc_taking_of.nd rfl (Or.inl rfl) (pe_op oDiv (pe_op op_sub (pv 2) (pv 1)) (pv 0))) (pss_cons (ps_set (i := 6) sc_taking_of.nd rfl (Or.inl rfl) (pe_ix ix_tup (pe_call (ok_pair_of (P := P) (w := w) (base := base) T) (hr.mono (by decide : 3 ≤ _)) (by rfl) T.g_pair_of T.F_pair_of.kp T.b_pair_of .nil pass0 (pa_cons (pv 0) (pa_cons (pv 5) pa_nil))) pe_int (fun _ _ => rfl))) (pss_one (ps_ret (pe_tupA (pa_cons (pe_op op_sub (pv 1) (pv 6)) (pa_cons (pe_op op_sub (pe_op op_sub (pv 2) (pv 6)) (pe_op oMul (pv 0) (pv 5))) pa_nil))))))))))), ?_⟩
    walk_at "rd"
    refine ite2 (fun c => ?_) (fun c => ?_)
    · have c := of_decide_eq_true c
      walk_at "rd"
      have e : tkg t lo hi = (0, hi) := by unfold tkg; rw [if_pos c]
      rw [e] at q
      exact q
    · have c : ¬ lo = 0 := fun z => c (decide_eq_true z)
      have bl : Bd 600 lo := bd_le bh h0 h1
      have p1 := plc_ok ht (show 1 ≤ lo by omega)
      have p2 := plc_le ht (show 1 ≤ lo by omega)
      have bp : Bd 600 (plc t lo) := bd_le bl (by omega) p2
      walk_at "rd"
      intro p1 H1 np1 e1 hp1
      walk_at "rd"
      refine ite2 (fun c2 => ?_) (fun c2 => ?_)
      · have c2 := of_decide_eq_true c2
        walk_at "rd"
        intro p3 H3 np3 e3 hp3
        have e : tkg t lo hi = (0, hi - (les t (plc t lo) + oth t (plc t lo) - lo)) := by unfold tkg; rw [if_neg c, if_pos c2]
        rw [e] at q
        exact q _ _ (e1.free np3) (by walk_at "sm") hp3
      · have c2 : ¬ les t (plc t lo) + oth t (plc t lo) - lo < hi := fun z => c2 (decide_eq_true z)
        have bd : Bd 600 (hi - lo) := bd_le bh (by omega) (by omega)
        walk_at "rd"
        intro p2 H2 np2 e2 hp2
        walk_at "rd"
        intro p3 H3 np3 e3 hp3
        have e : tkg t lo hi = (lo - les t ((hi - lo) / t), hi - les t ((hi - lo) / t) - t * ((hi - lo) / t)) := by unfold tkg; rw [if_neg c, if_neg c2]
        rw [e] at q
        exact q _ _ (e1.free (e2.free np3)) (by walk_at "sm") hp3

def sp_told (CL CW : Addr) : Sp := fun vs H Q E => ∃ (t : Int) (p : Addr) (x y : Int), vs = [.int t, .ref p] ∧ Pr H p x y ∧ 1 ≤ t ∧ 0 ≤ x ∧ 0 ≤ y ∧ Bd 600 t ∧ Bd 600 x ∧ Bd 600 y ∧
  (∀ r dx H2, IsLost t x y → Same H H2 → H2 r = some (.ins CL dx [("number", .int ((max x y - min x y) / t))]) → Q (.ref r) H2) ∧
  (∀ r dx u H2, ¬ IsLost t x y → Same H H2 → H2 r = some (.ins CW dx [("taking", .ref u)]) → Pr H2 u (tak t x y).1 (tak t x y).2 → Q (.ref r) H2)
theorem ok_told (T : Txt K mg) : FnOk P w K mg base CX0 5 T.a_told T.d_told ["bound", "heaps"] (sp_told T.a_Lost T.a_Won) := by
  refine T.F_told.ok sc_told (fun vs H Q E h => ?_) (fun cdv A outer s H vs Q E hr h => ?_)
  · obtain ⟨_, _, _, _, rfl, _⟩ := h
    rfl
  · have hu := hu_of hr
    obtain ⟨t, p, x, y, rfl, hp, ht, hx, hy, bt, bx, by_, qL, qW⟩ := h
    refine ⟨_, (pss_cons (ps_expr (pe_call (ok_check_bound (P := P) (w := w) (base := base) T) (hr.mono (by decide : 2 ≤ _)) (by rfl) T.g_check_bound T.F_check_bound.kp T.b_check_bound .nil pass0 (pa_cons (pv 0) pa_nil))) (pss_cons (ps_expr (pe_call (ok_check_heaps (P := P) (w := w) (base := base) T) (hr.mono (by decide : 3 ≤ _)) (by rfl) T.g_check_heaps T.F_check_heaps.kp T.b_check_heaps .nil pass0 (pa_cons (pv 1) pa_nil))) (pss_cons (ps_par (i := 2) (j := 3) (by rfl) sc_told.nd rfl rfl (by decide) rfl rfl (pa_cons (pe_callB (cMinP rfl hu) (by rfl) T.n_min (by decide +kernel) (pa_cons (pv 1) pa_nil)) (pa_cons (pe_callB (cMaxP rfl hu) (by rfl) T.n_max (by decide +kernel) (pa_cons (pv 1) pa_nil)) pa_nil)) (by rfl)) (pss_cons (ps_if (pt_val (pe_call (ok_is_lost (P := P) (w := w) (base := base) T) (hr.mono (by decide : 4 ≤ _)) (by rfl) T.g_is_lost T.F_is_lost.kp T.b_is_lost .nil pass0 (pa_cons (pv 0) (pa_cons (pv 1) pa_nil)))) (pss_one (ps_ret (pe_make T.m_Lost (ok_Lost_init (P := P) (w := w) (base := base) T) (hr.mono (by decide : 2 ≤ _)) (by rfl) T.g_Lost T.b_Lost_init .nil pass0 (pa_cons (pe_op oDiv (pe_op op_sub (pv 3) (pv 2)) (pv 0)) pa_nil)))) pss_nil) (pss_cons (ps_asg (pe_call (ok_taking_of (P := P) (w := w) (base := base) T) (hr.mono (by decide : 4 ≤ _)) (by rfl) T.g_taking_of T.F_taking_of.kp T.b_taking_of .nil pass0 (pa_cons (pv 0) (pa_cons (pv 2) (pa_cons (pv 3) pa_nil)))) (pg_tup rfl (pgs_cons (pg_name (i := 4) sc_told.nd rfl (Or.inl rfl)) (pgs_cons (pg_name (i := 5) sc_told.nd rfl (Or.inl rfl)) pgs_nil)))) (pss_one (ps_ret (pe_make T.m_Won (ok_Won_init (P := P) (w := w) (base := base) T) (hr.mono (by decide : 2 ≤ _)) (by rfl) T.g_Won T.b_Won_init .nil pass0 (pa_cons (pe_ifExp (pt_cmpR op_le (pe_ix ix_tup (pv 1) pe_int (fun _ _ => rfl)) (pe_ix ix_tup (pv 1) pe_int (fun _ _ => rfl)) (nomark _)) (pe_tupA (pa_cons (pv 4) (pa_cons (pv 5) pa_nil))) (pe_tupA (pa_cons (pv 5) (pa_cons (pv 4) pa_nil)))) pa_nil))))))))), ?_⟩
    have bm : Bd 602 (max x y - min x y) := bd_le (j := max x y) (bd_max bx by_) (by omega) (by omega)
    have bM : Bd 600 (max x y) := bd_max2 bx by_
    walk_at "rd"
    intro H1 e1
    walk_at "rd"
    refine ite2 (fun c => ?_) (fun c => ?_)
    · have c := of_decide_eq_true c
      walk_at "rd"
      intro r dx nr nd ne
      refine ⟨r, dx, _, rfl, upd_same, fun H2 h2 kp => ⟨rfl, ?_⟩⟩
      have e2 : Same H1 H2 := Same.made nr nd fun b o h nb => kp b o nb h
      exact qL r dx H2 c (by walk_at "sm") h2
    · have c : ¬ IsLost t x y := fun z => c (decide_eq_true z)
      walk_at "rd"
      intro p1 H2 np1 e2 hp1
      walk_at "rd"
      refine ite2 (fun c2 => ?_) (fun c2 => ?_)
      · have c2 := of_decide_eq_true c2
        walk_at "rd"
        intro u H3 nu e3 hu3
        walk_at "rd"
        intro r dx nr nd ne
        refine ⟨r, dx, _, rfl, upd_same, fun H4 h4 kp => ⟨rfl, ?_⟩⟩
        have e4 : Same H3 H4 := Same.made nr nd fun b o h nb => kp b o nb h
        refine qW r dx u H4 c (by walk_at "sm") h4 ?_
        unfold tak
        rw [if_pos c2]
        rw [show min x y = x by omega, show max x y = y by omega] at hu3
        exact e4 _ _ hu3
      · have c2 : ¬ x ≤ y := fun z => c2 (decide_eq_true z)
        walk_at "rd"
        intro u H3 nu e3 hu3
        walk_at "rd"
        intro r dx nr nd ne
        refine ⟨r, dx, _, rfl, upd_same, fun H4 h4 kp => ⟨rfl, ?_⟩⟩
        have e4 : Same H3 H4 := Same.made nr nd fun b o h nb => kp b o nb h
        refine qW r dx u H4 c (by walk_at "sm") h4 ?_
        unfold tak
        rw [if_neg c2]
        rw [show min x y = y by omega, show max x y = x by omega] at hu3
        exact e4 _ _ hu3

def sp__law_cell_at (K : PySem.W.Frag) : Sp := fun vs H Q E => ∃ (a : Addr) (ns : List Int) (k : Int), vs = [.ref a, .int k] ∧ SqL K H a (ns.map V.int) ∧ (0 ≤ k ∧ k ≤ 200) ∧ (∀ n ∈ ns, Bd 1048577 n) ∧ ∀ c, Bd 1048577 c → Q (.int c) H
theorem ok__law_cell_at (T : Txt K mg) : FnOk P w K mg base CX0 1 T.a__law_cell_at T.d__law_cell_at ["_law_script", "_law_k"] (sp__law_cell_at K) := by
  refine T.F__law_cell_at.ok sc__law_cell_at (fun vs H Q E h => ?_) (fun cdv A outer s H vs Q E hr h => ?_)
  · obtain ⟨_, _, _, rfl, _⟩ := h
    rfl
  · have hu := hu_of hr
    obtain ⟨a, ns, k, rfl, hS, ⟨hk, hk2⟩, hb, q⟩ := h
    refine ⟨_, (pss_cons (ps_if (pt_cmpR op_lt (pv 1) (pe_callB call_len (by rfl) T.n_len (by decide +kernel) (pa_cons (pv 0) pa_nil)) (nomark _)) (pss_one (ps_ret (pe_ix ix_list (pv 0) (pv 1) (fun _ _ => rfl)))) pss_nil) (pss_one (ps_ret pe_int))), ?_⟩
    walk_at "rd"
    refine ite2 (fun c => ?_) (fun c => ?_)
    · have c := of_decide_eq_true c
      obtain ⟨j, rfl⟩ := Int.eq_ofNat_of_zero_le hk
      rw [List.length_map] at c
      have hj : j < ns.length := by omega
      walk_at "rd"
      refine ⟨_, _, _, .int ns[j], rfl, rfl, hS, atI_nat (by rw [List.getElem?_map, List.getElem?_eq_getElem hj]; rfl), ?_⟩
      exact q _ (hb _ (List.getElem_mem hj))
    · walk_at "rd"
      exact q 0 (bd_mono (bd_lit (i := 0)) (by decide))

def sp__law_draw  : Sp := fun vs H Q E => ∃ (c k m : Int), vs = [.int c, .int k, .int m] ∧ Bd 2200000 c ∧ (0 ≤ k ∧ k ≤ 1000) ∧ (1 ≤ m ∧ m ≤ 1000000) ∧ ∀ d H2, Same H H2 → 0 ≤ d → d < m → Q (.int d) H2
theorem ok__law_draw (T : Txt K mg) : FnOk P w K mg base CX0 1 T.a__law_draw T.d__law_draw ["_law_cell", "_law_k", "_law_many"] (sp__law_draw ) := by
  refine T.F__law_draw.ok sc__law_draw (fun vs H Q E h => ?_) (fun cdv A outer s H vs Q E hr h => ?_)
  · obtain ⟨_, _, _, rfl, _⟩ := h
    rfl
  · have hu := hu_of hr
    obtain ⟨c, k, m, rfl, bc, ⟨hk, hk2⟩, ⟨hm, hm2⟩, q⟩ := h
    refine ⟨_, (pss_cons (ps_set (i := 3) sc__law_draw.nd rfl (Or.inl rfl) (pe_tupA (pa_cons pe_int (pa_cons pe_int (pa_cons pe_int (pa_cons pe_int (pa_cons pe_int (pa_cons pe_int (pa_cons pe_int (pa_cons pe_int (pa_cons pe_int (pa_cons pe_int (pa_cons pe_int (pa_cons pe_int (pa_cons pe_int (pa_cons pe_int (pa_cons pe_int (pa_cons pe_int pa_nil)))))))))))))))))) (pss_one (ps_ret (pe_op oMod (pe_op oMod (pe_op op_add (pe_op oMul (pv 0) pe_int) (pe_op oMul (pv 1) pe_int)) (pe_ix ix_tup (pv 3) (pe_op oMod (pv 1) pe_int) (fun _ _ => rfl))) (pv 2))))), ?_⟩
    walk_at "rd"
    intro p H1 np e1 hp
    have bk : Bd 64 k := bd_lt hk (by omega)
    walk_at "rd"
    obtain ⟨v, hv, hv0⟩ := prime_at k
    refine ⟨_, _, _, _, rfl, rfl, SqT.of hp, hv, ?_⟩
    walk_at "rd"
    exact q _ _ e1 (Int.emod_nonneg _ (by omega)) (Int.emod_lt_of_pos _ (by omega))

def sp__law_may  : Sp := fun vs H Q E => ∃ (t : Int) (p : Addr) (x y : Int) (r : Addr) (i j : Int), vs = [.int t, .ref p, .ref r] ∧ Pr H p x y ∧ Pr H r i j ∧ Q (.bl (decide (Legal t x y i j))) H
theorem ok__law_may (T : Txt K mg) : FnOk P w K mg base CX0 1 T.a__law_may T.d__law_may ["_law_bound", "_law_heaps", "_law_taking"] (sp__law_may ) := by
  refine T.F__law_may.ok sc__law_may (fun vs H Q E h => ?_) (fun cdv A outer s H vs Q E hr h => ?_)
  · obtain ⟨_, _, _, _, _, _, _, rfl, _⟩ := h
    rfl
  · have hu := hu_of hr
    obtain ⟨t, p, x, y, r, i, j, rfl, hp, hr2, q⟩ := h
    refine ⟨_, (pss_cons (ps_if (PW.pt (pw_or (pt_cmpR op_lt (pe_callB (cMinP rfl hu) (by rfl) T.n_min (by decide +kernel) (pa_cons (pv 2) pa_nil)) pe_int (nomark _)) (pw_or (pt_cmpR oEq (pe_callB (cMaxP rfl hu) (by rfl) T.n_max (by decide +kernel) (pa_cons (pv 2) pa_nil)) pe_int (nomark _)) (pw_or (pt_cmpR op_gt (pe_ix ix_tup (pv 2) pe_int (fun _ _ => rfl)) (pe_ix ix_tup (pv 1) pe_int (fun _ _ => rfl)) (nomark _)) (pw_or1 (pt_cmpR op_gt (pe_ix ix_tup (pv 2) pe_int (fun _ _ => rfl)) (pe_ix ix_tup (pv 1) pe_int (fun _ _ => rfl)) (nomark _))))))) (pss_one (ps_ret pe_bl)) pss_nil) (pss_one (ps_ret (pe_or (pe_cmpR oEq (pe_callB (cMinP rfl hu) (by rfl) T.n_min (by decide +kernel) (pa_cons (pv 2) pa_nil)) pe_int (nomark _)) (pe_one (pe_cmpR op_lt (pe_callB call_abs (by rfl) T.n_abs (by decide +kernel) (pa_cons (pe_op op_sub (pe_ix ix_tup (pv 2) pe_int (fun _ _ => rfl)) (pe_ix ix_tup (pv 2) pe_int (fun _ _ => rfl))) pa_nil)) (pv 0) (nomark _))))))), ?_⟩
    walk_at "rd"
    refine ite2 (fun c => ?_) (fun c1 => ?_)
    · walk_at "rd"
      have c := of_decide_eq_true c
      have z : decide (Legal t x y i j) = false := decide_eq_false (by unfold Legal; omega)
      rw [z] at q
      exact q
    walk_at "rd"
    refine ite2 (fun c => ?_) (fun c2 => ?_)
    · walk_at "rd"
      have c := of_decide_eq_true c
      have z : decide (Legal t x y i j) = false := decide_eq_false (by unfold Legal; omega)
      rw [z] at q
      exact q
    walk_at "rd"
    refine ite2 (fun c => ?_) (fun c3 => ?_)
    · walk_at "rd"
      have c := of_decide_eq_true c
      have z : decide (Legal t x y i j) = false := decide_eq_false (by unfold Legal; omega)
      rw [z] at q
      exact q
    walk_at "rd"
    refine ite2 (fun c => ?_) (fun c4 => ?_)
    · walk_at "rd"
      have c := of_decide_eq_true c
      have z : decide (Legal t x y i j) = false := decide_eq_false (by unfold Legal; omega)
      rw [z] at q
      exact q
    simp only [decide_eq_true_eq] at c1 c2 c3 c4
    walk_at "rd"
    refine ite2 (fun c => ?_) (fun c => ?_)
    · have c := of_decide_eq_true c
      have z : decide (Legal t x y i j) = true := decide_eq_true (by unfold Legal; omega)
      rw [z] at q
      exact q
    · simp only [decide_eq_true_eq] at c
      walk_at "rd"
      have z : decide (Legal t x y i j) = decide ((if i - j < 0 then -(i - j) else i - j) < t) := decide_eq_decide.mpr (by unfold Legal; split <;> omega)
      rw [z] at q
      exact q

def sp__law_tried  : Sp := fun vs H Q E => ∃ (t m : Int), vs = [.int t, .int m] ∧ 1 ≤ t ∧ Bd 140 t ∧ 0 ≤ m ∧ m ≤ 10 ∧ ∀ D H2 kvs, Same H H2 → H2 D = some (.dT kvs) → (∀ x y, 0 ≤ x → x ≤ m → 0 ≤ y → y ≤ m → ((valV kvs (ky x y)).isSome = true ↔ IsLost t x y)) → Q (.ref D) H2
theorem ok__law_tried (T : Txt K mg) : FnOk P w K mg base CX0 2 T.a__law_tried T.d__law_tried ["_law_bound", "_law_most"] (sp__law_tried ) := by
  refine T.F__law_tried.ok sc__law_tried (fun vs H Q E h => ?_) (fun cdv A outer s H vs Q E hr h => ?_)
  · obtain ⟨_, _, rfl, _⟩ := h
    rfl
  · have hu := hu_of hr
    obtain ⟨t, m, rfl, ht, bt, h0, h10, q⟩ := h
    refine ⟨_, (pss_cons (ps_set (i := 2) sc__law_tried.nd rfl (Or.inl rfl) pe_dnewT) (pss_cons (ps_for PassesOwn.never rfl (pi_range1 (by rfl) T.n_range (pa_cons (pe_op op_add (pe_op oMul pe_int (pv 1)) pe_int) pa_nil)) (pg_name (i := 3) sc__law_tried.nd rfl (Or.inl rfl)) (pss_one (ps_for PassesOwn.never rfl (pi_range2 (by rfl) T.n_range (pa_cons (pe_callB (call_max2 rfl) (by rfl) T.n_max (by decide +kernel) (pa_cons pe_int (pa_cons (pe_op op_sub (pv 3) (pv 1)) pa_nil))) (pa_cons (pe_op op_add (pe_callB (call_min2 rfl) (by rfl) T.n_min (by decide +kernel) (pa_cons (pv 1) (pa_cons (pv 3) pa_nil))) pe_int) pa_nil))) (pg_name (i := 4) sc__law_tried.nd rfl (Or.inl rfl)) (pss_cons (ps_par (i := 5) (j := 6) (by rfl) sc__law_tried.nd rfl rfl (by decide) rfl rfl (pa_cons (pe_tupA (pa_cons (pv 4) (pa_cons (pe_op op_sub (pv 3) (pv 4)) pa_nil))) (pa_cons pe_bl pa_nil)) (by rfl)) (pss_cons (ps_for PassesOwn.never rfl (pi_range1 (by rfl) T.n_range (pa_cons (pe_op op_add (pe_ix ix_tup (pv 5) pe_int (fun _ _ => rfl)) pe_int) pa_nil)) (pg_name (i := 7) sc__law_tried.nd rfl (Or.inl rfl)) (pss_one (ps_for PassesOwn.never rfl (pi_range1 (by rfl) T.n_range (pa_cons (pe_op op_add (pe_ix ix_tup (pv 5) pe_int (fun _ _ => rfl)) pe_int) pa_nil)) (pg_name (i := 8) sc__law_tried.nd rfl (Or.inl rfl)) (pss_one (ps_if (PW.pt (pw_and (pt_val (pe_call (ok__law_may (P := P) (w := w) (base := base) T) (hr.mono (by decide : 1 ≤ _)) (by rfl) T.g__law_may T.F__law_may.kp T.b__law_may .nil pass0 (pa_cons (pv 0) (pa_cons (pv 5) (pa_cons (pe_tupA (pa_cons (pv 7) (pa_cons (pv 8) pa_nil))) pa_nil))))) (pw_and1 (pt_cmp (pc_din hu (pe_tupA (pa_cons (pe_op op_sub (pe_ix ix_tup (pv 5) pe_int (fun _ _ => rfl)) (pv 7)) (pa_cons (pe_op op_sub (pe_ix ix_tup (pv 5) pe_int (fun _ _ => rfl)) (pv 8)) pa_nil))) (pv 2)))))) (pss_one (ps_set (i := 6) sc__law_tried.nd rfl (Or.inl rfl) pe_bl)) pss_nil))))) (pss_one (ps_if (pt_val (pv 6)) (pss_one (ps_dput hu (pv 2) (pv 5) pe_bl rfl)) pss_nil))))))) (pss_one (ps_ret (pv 2))))), ?_⟩
    have bm : Bd 64 m := bd_lt h0 (by omega)
    walk_at "rd"
    intro D nD
    have e0 : Same H (upd H D (.dT [])) := Same.new nD
    walk_at "rd"
    refine for_range (lo := 0) (n := (2 * m + 1).toNat) (fun i σ H' => ∃ (kvs : List (List Key × V)) (y3 y4 y5 y6 y7 y8 : Option V), σ = [some (.int t), some (.int m), some (.ref D), y3, y4, y5, y6, y7, y8] ∧ Same H H' ∧ H' D = some (.dT kvs) ∧ kvs.length ≤ 11 * i ∧ Tried t kvs m (i : Int) 0) ?_ ?_ ?_
    · exact ⟨[], _, _, _, _, _, _, rfl, e0, upd_same, Nat.le_refl _, tried0 t m⟩
    · rintro i σ H1 hi ⟨kvs, y3, y4, y5, y6, y7, y8, rfl, e1, hD, hl, hT⟩
      have es : (0 : Int) + (i : Int) = (i : Int) := by omega
      rw [es]
      have hi2 : (i : Int) ≤ 2 * m := by omega
      obtain ⟨lo, hlo⟩ : ∃ lo : Int, lo = if (i : Int) - m > 0 then (i : Int) - m else 0 := ⟨_, rfl⟩
      obtain ⟨hi', hhi⟩ : ∃ hi' : Int, hi' = (if (i : Int) < m then (i : Int) else m) + 1 := ⟨_, rfl⟩
      have lo1 : 0 ≤ lo ∧ lo ≤ m ∧ (i : Int) - m ≤ lo ∧ (lo = 0 ∨ lo = (i : Int) - m) := by
        rw [hlo]
        split <;> omega
      have hi1 : lo < hi' ∧ hi' ≤ m + 1 ∧ hi' ≤ (i : Int) + 1 ∧ (hi' = m + 1 ∨ hi' = (i : Int) + 1) := by
        rw [hhi]
        split <;> omega
      walk_at "rd"
      rw [← hlo, ← hhi]
      walk_at "rd"
      refine for_range (lo := lo) (n := (hi' - lo).toNat) (fun j σ H' => ∃ (kvs : List (List Key × V)) (y4 y5 y6 y7 y8 : Option V), σ = [some (.int t), some (.int m), some (.ref D), some (.int (i : Int)), y4, y5, y6, y7, y8] ∧ Same H H' ∧ H' D = some (.dT kvs) ∧ kvs.length ≤ 11 * i + j ∧ Tried t kvs m (i : Int) (lo + (j : Int))) ?_ ?_ ?_
      · exact ⟨kvs, _, _, _, _, _, rfl, e1, hD, by omega, hT.to fun x y => by unfold Done; omega⟩
      · rintro j σ H2 hj ⟨kvs, y4, y5, y6, y7, y8, rfl, e2, hD, hl, hT⟩
        have x0 : 0 ≤ lo + (j : Int) := by omega
        have x1 : lo + (j : Int) ≤ m := by omega
        have y0 : 0 ≤ (i : Int) - (lo + (j : Int)) := by omega
        have y1 : (i : Int) - (lo + (j : Int)) ≤ m := by omega
        have hl2 : kvs.length ≤ 1000 := by omega
        have hl3 : kvs.length + 1 ≤ 11 * i + (j + 1) := by omega
        have ej : lo + ((j + 1 : Nat) : Int) = lo + (j : Int) + 1 := by omega
        rw [ej]
        generalize lo + (j : Int) = x at *
        obtain ⟨y, hy⟩ : ∃ y, y = (i : Int) - x := ⟨_, rfl⟩
        rw [← hy] at y0 y1
        walk_at "rd"
        intro p H3 np e3 hp
        replace hp : Pr H3 p x y := by rw [hy]; exact hp
        have hD3 : H3 D = some (.dT kvs) := e3 _ _ hD
        walk_at "rd"
        refine for_range (lo := 0) (n := (x + 1).toNat) (fun a σ H' => ∃ (g : Bool) (y7 y8 : Option V), σ = [some (.int t), some (.int m), some (.ref D), some (.int (i : Int)), some (.int x), some (.ref p), some (.bl g), y7, y8] ∧ Same H3 H' ∧ (g = true ↔ Ok3 t x y (a : Int))) ?_ ?_ ?_
        · exact ⟨true, _, _, rfl, Same.refl _, ⟨fun _ => ok3_0 t x y, fun _ => rfl⟩⟩
        · rintro a σ H4 ha ⟨g, y7, y8, rfl, e4, hg⟩
          rw [show (0 : Int) + (a : Int) = (a : Int) by omega]
          walk_at "rd"
          refine for_range (lo := 0) (n := (y + 1).toNat) (fun b σ H' => ∃ (g : Bool) (y8 : Option V), σ = [some (.int t), some (.int m), some (.ref D), some (.int (i : Int)), some (.int x), some (.ref p), some (.bl g), some (.int (a : Int)), y8] ∧ Same H3 H' ∧ (g = true ↔ Ok4 t x y (a : Int) (b : Int))) ?_ ?_ ?_
          · exact ⟨g, _, rfl, e4, hg.trans ok4_0.symm⟩
          · rintro b σ H5 hb ⟨g, y8, rfl, e5, hg⟩
            rw [show (0 : Int) + (b : Int) = (b : Int) by omega]
            have eb : ((b + 1 : Nat) : Int) = (b : Int) + 1 := by omega
            rw [eb]
            walk_at "rd"
            intro q1 H6 nq1 e6 hq1
            walk_at "rd"
            refine ite2 (fun c => ?_) (fun c => ?_)
            · have c := of_decide_eq_true c
              walk_at "rd"
              intro q2 H7 nq2 e7 hq2
              walk_at "rd"
              refine ⟨D, _, rfl, DGet.t (k := ky (x - a) (y - b)) (show H7 D = some (.dT kvs) by walk_at "hp") hq2, ?_⟩
              walk_at "rd"
              have hv := hT (x - a) (y - b)
              have hdn : Done m (i : Int) x (x - a) (y - b) := by
                unfold Done
                unfold Legal at c
                omega
              refine ite2 (fun c2 => ?_) (fun c2 => ?_)
              · exact ⟨false, _, rfl, by walk_at "sm", ⟨fun z => (by cases z), fun z => absurd ⟨c, (hv.mp c2).2⟩ (ok4_step.mp z).2⟩⟩
              · exact ⟨g, _, rfl, by walk_at "sm", hg.trans ⟨fun z => ok4_step.mpr ⟨z, fun w => c2 (hv.mpr ⟨hdn, w.2⟩)⟩, fun z => (ok4_step.mp z).1⟩⟩
            · exact ⟨g, _, rfl, by walk_at "sm", hg.trans ⟨fun z => ok4_step.mpr ⟨z, fun w => c (decide_eq_true w.1)⟩, fun z => (ok4_step.mp z).1⟩⟩
          · rintro σ H5 ⟨g, y8, rfl, e5, hg⟩
            refine ⟨g, _, _, rfl, e5, hg.trans ?_⟩
            rw [show (((y + 1).toNat : Nat) : Int) = y + 1 by omega, show ((a + 1 : Nat) : Int) = (a : Int) + 1 by omega]
            exact ok4_end
        · rintro σ H4 ⟨g, y7, y8, rfl, e4, hg⟩
          rw [show (((x + 1).toNat : Nat) : Int) = x + 1 by omega] at hg
          have hg2 := hg.trans (ok3_end ht x0 y0)
          have hD4 : H4 D = some (.dT kvs) := e4 _ _ hD3
          have e9 : Same H H4 := by walk_at "sm"
          rw [hy] at hg2
          walk_at "rd"
          refine ite2 (fun c => ?_) (fun c => ?_)
          · walk_at "rd"
            refine ⟨D, _, rfl, DPut.t (k := ky x y) hD4 (e4 _ _ hp) (line_lt hl2 rfl), ?_⟩
            have l1 := length_putK kvs (ky x y) (V.bl true)
            rw [hy] at l1 ⊢
            refine ⟨_, _, _, _, _, _, rfl, fun u o hu => ?_, upd_same, by omega, tried_put hT (by omega) (hg2.mp c)⟩
            have nu : u ≠ D := fun z => by rw [z, nD] at hu; cases hu
            rw [upd_ne nu]
            exact e9 u o hu
          · exact ⟨kvs, _, _, _, _, _, rfl, e9, hD4, by omega, tried_no hT fun z => c (hg2.mpr z)⟩
      · rintro σ H2 ⟨kvs, y4, y5, y6, y7, y8, rfl, e2, hD, hl, hT⟩
        refine ⟨kvs, _, _, _, _, _, _, rfl, e2, hD, by omega, hT.to fun x y => ?_⟩
        rw [show ((i + 1 : Nat) : Int) = (i : Int) + 1 by omega, show lo + (((hi' - lo).toNat : Nat) : Int) = hi' by omega]
        unfold Done
        omega
    · rintro σ H1 ⟨kvs, y3, y4, y5, y6, y7, y8, rfl, e1, hD, hl, hT⟩
      walk_at "rd"
      refine q D H1 kvs e1 hD fun x y x0 x1 y0 y1 => ?_
      rw [hT x y]
      exact ⟨fun z => z.2, fun z => ⟨by unfold Done; omega, z⟩⟩

def sp__law_all_right  : Sp := fun vs H Q E => ∃ (t m : Int), vs = [.int t, .int m] ∧ 1 ≤ t ∧ Bd 140 t ∧ 0 ≤ m ∧ m ≤ 10 ∧ ∀ H2, Same H H2 → Q (.bl true) H2
theorem ok__law_all_right (T : Txt K mg) : FnOk P w K mg base CX0 6 T.a__law_all_right T.d__law_all_right ["_law_bound", "_law_most"] (sp__law_all_right ) := by
  refine T.F__law_all_right.ok sc__law_all_right (fun vs H Q E h => ?_) (fun cdv A outer s H vs Q E hr h => ?_)
  · obtain ⟨_, _, rfl, _⟩ := h
    rfl
  · have hu := hu_of hr
    obtain ⟨t, m, rfl, ht, bt, h0, h10, q⟩ := h
    refine ⟨_, (pss_cons (ps_set (i := 2) sc__law_all_right.nd rfl (Or.inl rfl) (pe_call (ok__law_tried (P := P) (w := w) (base := base) T) (hr.mono (by decide : 2 ≤ _)) (by rfl) T.g__law_tried T.F__law_tried.kp T.b__law_tried .nil pass0 (pa_cons (pv 0) (pa_cons (pv 1) pa_nil)))) (pss_cons (ps_for PassesOwn.never rfl (pi_range1 (by rfl) T.n_range (pa_cons (pe_op op_add (pv 1) pe_int) pa_nil)) (pg_name (i := 3) sc__law_all_right.nd rfl (Or.inl rfl)) (pss_one (ps_for PassesOwn.never rfl (pi_range1 (by rfl) T.n_range (pa_cons (pe_op op_add (pv 1) pe_int) pa_nil)) (pg_name (i := 4) sc__law_all_right.nd rfl (Or.inl rfl)) (pss_cons (ps_set (i := 5) sc__law_all_right.nd rfl (Or.inl rfl) (pe_call (ok_told (P := P) (w := w) (base := base) T) (hr.mono (by decide : 5 ≤ _)) (by rfl) T.g_told T.F_told.kp T.b_told .nil pass0 (pa_cons (pv 0) (pa_cons (pe_tupA (pa_cons (pv 3) (pa_cons (pv 4) pa_nil))) pa_nil)))) (pss_cons (ps_if (PW.pt (pw_or (pt_cmpR oNeB (pe_callB call_isi (by rfl) T.n_isinstance (by decide +kernel) (pa_cons (pv 5) (pa_cons (pe_glob (v := .ref T.a_Lost) (by rfl) T.g_Lost rfl) pa_nil))) (pe_cmp (pc_din hu (pe_tupA (pa_cons (pv 3) (pa_cons (pv 4) pa_nil))) (pv 2)) rfl) (nomark _)) (pw_or1 (pt_cmpR oEqB (pe_callB call_isi (by rfl) T.n_isinstance (by decide +kernel) (pa_cons (pv 5) (pa_cons (pe_glob (v := .ref T.a_Lost) (by rfl) T.g_Lost rfl) pa_nil))) (pe_callB call_isi (by rfl) T.n_isinstance (by decide +kernel) (pa_cons (pv 5) (pa_cons (pe_glob (v := .ref T.a_Won) (by rfl) T.g_Won rfl) pa_nil))) (nomark _))))) (pss_one (ps_ret pe_bl)) pss_nil) (pss_one (ps_if (pt_val (pe_callB call_isi (by rfl) T.n_isinstance (by decide +kernel) (pa_cons (pv 5) (pa_cons (pe_glob (v := .ref T.a_Won) (by rfl) T.g_Won rfl) pa_nil)))) (pss_cons (ps_set (i := 6) sc__law_all_right.nd rfl (Or.inl rfl) (pe_fld (pv 5) rfl)) (pss_cons (ps_if (pt_not (pt_val (pe_call (ok__law_may (P := P) (w := w) (base := base) T) (hr.mono (by decide : 1 ≤ _)) (by rfl) T.g__law_may T.F__law_may.kp T.b__law_may .nil pass0 (pa_cons (pv 0) (pa_cons (pe_tupA (pa_cons (pv 3) (pa_cons (pv 4) pa_nil))) (pa_cons (pv 6) pa_nil)))))) (pss_one (ps_ret pe_bl)) pss_nil) (pss_one (ps_if (pt_cmp (pc_dnotin hu (pe_tupA (pa_cons (pe_op op_sub (pv 3) (pe_ix ix_tup (pv 6) pe_int (fun _ _ => rfl))) (pa_cons (pe_op op_sub (pv 4) (pe_ix ix_tup (pv 6) pe_int (fun _ _ => rfl))) pa_nil))) (pv 2))) (pss_one (ps_ret pe_bl)) pss_nil)))) (pss_one (ps_if (pt_cmpR oNe (pe_op oMul (pe_fld (pv 5) rfl) (pv 0)) (pe_callB call_abs (by rfl) T.n_abs (by decide +kernel) (pa_cons (pe_op op_sub (pv 3) (pv 4)) pa_nil)) (nomark _)) (pss_one (ps_ret pe_bl)) pss_nil))))))))) (pss_one (ps_ret pe_bl)))), ?_⟩
    walk_at "rd"
    intro D H1 kvs e1 hD hk
    walk_at "rd"
    refine for_range (lo := 0) (n := (m + 1).toNat) (fun i σ H' => ∃ (y3 y4 y5 y6 : Option V), σ = [some (.int t), some (.int m), some (.ref D), y3, y4, y5, y6] ∧ Same H1 H') ?_ ?_ ?_
    · exact ⟨_, _, _, _, rfl, Same.refl _⟩
    · rintro i σ H2 hi ⟨y3, y4, y5, y6, rfl, e2⟩
      rw [show (0 : Int) + (i : Int) = (i : Int) by omega]
      have x0 : 0 ≤ (i : Int) := by omega
      have x1 : (i : Int) ≤ m := by omega
      generalize (i : Int) = x at *
      walk_at "rd"
      refine for_range (lo := 0) (n := (m + 1).toNat) (fun j σ H' => ∃ (y4 y5 y6 : Option V), σ = [some (.int t), some (.int m), some (.ref D), some (.int x), y4, y5, y6] ∧ Same H1 H') ?_ ?_ ?_
      · exact ⟨_, _, _, rfl, e2⟩
      · rintro j σ H3 hj ⟨z4, z5, z6, rfl, e3⟩
        rw [show (0 : Int) + (j : Int) = (j : Int) by omega]
        have y0 : 0 ≤ (j : Int) := by omega
        have y1 : (j : Int) ≤ m := by omega
        generalize (j : Int) = y at *
        have bx : Bd 64 x := bd_lt x0 (by omega)
        have by_ : Bd 64 y := bd_lt y0 (by omega)
        walk_at "rd"
        intro p H4 np e4 hp
        walk_at "rd"
        refine ⟨fun r dx H5 hL e5 hr5 => ?_, fun r dx u H5 hW e5 hr5 hu5 => ?_⟩
        · -- Lost
          have bq : Bd 64 ((max x y - min x y) / t) := bd_div (bd_lt (by omega) (by omega)) (by omega)
          walk_at "rd"
          intro p6 H6 np6 e6 hp6
          walk_at "rd"
          refine ⟨D, _, rfl, DGet.t (k := ky x y) (show H6 D = some (.dT kvs) by walk_at "hp") hp6, ?_⟩
          rw [(hk x y x0 x1 y0 y1).mpr hL]
          walk_at "rd"
          refine ite2 (fun c => ?_) (fun c => ?_)
          · exfalso
            simp only [Bool.not_eq_true', decide_eq_false_iff_not] at c
            refine c ?_
            rw [lost_apart hL]
            split <;> omega
          · exact ⟨_, _, _, rfl, by walk_at "sm"⟩
        · -- Won
          obtain ⟨k1, k2⟩ := tak_ok ht x0 y0 hW
          generalize hi3 : (tak t x y).1 = i3 at *
          generalize hj3 : (tak t x y).2 = j3 at *
          walk_at "rd"
          intro p6 H6 np6 e6 hp6
          walk_at "rd"
          refine ⟨D, _, rfl, DGet.t (k := ky x y) (show H6 D = some (.dT kvs) by walk_at "hp") hp6, ?_⟩
          have hk2 : (valV kvs (ky x y)).isSome = false := by
            cases hh : (valV kvs (ky x y)).isSome
            · rfl
            · exact absurd ((hk x y x0 x1 y0 y1).mp hh) hW
          rw [hk2]
          walk_at "rd"
          intro p7 H7 np7 e7 hp7
          walk_at "rd"
          refine ite2 (fun c => ?_) (fun c => ?_)
          · exfalso
            rw [decide_eq_true k1] at c
            cases c
          · walk_at "rd"
            intro p8 H8 np8 e8 hp8
            walk_at "rd"
            refine ⟨D, _, rfl, DGet.t (k := ky (x - i3) (y - j3)) (show H8 D = some (.dT kvs) by walk_at "hp") hp8, ?_⟩
            unfold Legal at k1
            rw [(hk (x - i3) (y - j3) (by omega) (by omega) (by omega) (by omega)).mpr k2]
            walk_at "rd"
            walk_at "sm"
      · rintro σ H3 ⟨z4, z5, z6, rfl, e3⟩
        exact ⟨_, _, _, _, rfl, e3⟩
    · rintro σ H2 ⟨y3, y4, y5, y6, rfl, e2⟩
      walk_at "rd"
      exact q _ (by walk_at "sm")

def sp_law (K : PySem.W.Frag) : Sp := fun vs H Q E => ∃ (a : Addr) (ns : List Int), vs = [.ref a] ∧ SqL K H a (ns.map V.int) ∧ ns.length ≤ 63 ∧ (∀ n ∈ ns, Bd 1048577 n) ∧ ∀ H', Q (.bl true) H'
theorem ok_law (T : Txt K mg) : FnOk P w K mg base CX0 7 T.a_law T.d_law ["_law_script"] (sp_law K) := by
  refine T.F_law.ok sc_law (fun vs H Q E h => ?_) (fun cdv A outer s H vs Q E hr h => ?_)
  · obtain ⟨_, _, rfl, _⟩ := h
    rfl
  · have hu := hu_of hr
    obtain ⟨a, ns, rfl, hS, hlen, hb, q⟩ := h
    refine ⟨_, (pss_cons (ps_set (i := 1) sc_law.nd rfl (Or.inl rfl) (pe_op oMod (pe_call (ok__law_cell_at (P := P) (w := w) (base := base) T) (hr.mono (by decide : 1 ≤ _)) (by rfl) T.g__law_cell_at T.F__law_cell_at.kp T.b__law_cell_at .nil pass0 (pa_cons (pv 0) (pa_cons pe_int pa_nil))) (pe_op oP18 pe_int pe_int))) (pss_cons (ps_if (pt_not (pt_val (pe_call (ok__law_all_right (P := P) (w := w) (base := base) T) (hr.mono (by decide : 6 ≤ _)) (by rfl) T.g__law_all_right T.F__law_all_right.kp T.b__law_all_right .nil pass0 (pa_cons (pe_op op_add pe_int (pe_call (ok__law_draw (P := P) (w := w) (base := base) T) (hr.mono (by decide : 1 ≤ _)) (by rfl) T.g__law_draw T.F__law_draw.kp T.b__law_draw .nil pass0 (pa_cons (pv 1) (pa_cons pe_int (pa_cons pe_int pa_nil))))) (pa_cons (pe_op op_add pe_int (pe_call (ok__law_draw (P := P) (w := w) (base := base) T) (hr.mono (by decide : 1 ≤ _)) (by rfl) T.g__law_draw T.F__law_draw.kp T.b__law_draw .nil pass0 (pa_cons (pv 1) (pa_cons pe_int (pa_cons pe_int pa_nil))))) pa_nil))))) (pss_one (ps_ret pe_bl)) pss_nil) (pss_one (ps_ret (pe_and (pe_call (ok__law_all_right (P := P) (w := w) (base := base) T) (hr.mono (by decide : 6 ≤ _)) (by rfl) T.g__law_all_right T.F__law_all_right.kp T.b__law_all_right .nil pass0 (pa_cons (pe_op op_add pe_int (pe_call (ok__law_draw (P := P) (w := w) (base := base) T) (hr.mono (by decide : 1 ≤ _)) (by rfl) T.g__law_draw T.F__law_draw.kp T.b__law_draw .nil pass0 (pa_cons (pv 1) (pa_cons pe_int (pa_cons pe_int pa_nil))))) (pa_cons pe_int pa_nil))) (pe_one (pe_call (ok__law_all_right (P := P) (w := w) (base := base) T) (hr.mono (by decide : 6 ≤ _)) (by rfl) T.g__law_all_right T.F__law_all_right.kp T.b__law_all_right .nil pass0 (pa_cons pe_int (pa_cons pe_int pa_nil))))))))), ?_⟩
    walk_at "rd"
    intro c bc
    walk_at "rd"
    intro d1 H1 e1 d10 d11
    walk_at "rd"
    intro d2 H2 e2 d20 d21
    have b1 : Bd 64 (1 + d1) := bd_lt (by omega) (by omega)
    walk_at "rd"
    intro H3 e3
    walk_at "rd"
    intro d3 H4 e4 d30 d31
    have b3 : Bd 64 (1 + d3) := bd_lt (by omega) (by omega)
    walk_at "rd"
    intro H5 e5
    walk_at "rd"
    intro H6 e6
    walk_at "rd"
    exact q _

end

theorem all_mk {l : PySem.W.OpenLaw} {w : World} {K : PySem.W.Frag} {h : Heap} {mg : Str → Option Value} {fa C_Lost C_Won f_is_whole f_is_pair f_check_bound f_check_heaps f_root_of f_lesser_of f_pair_of f_place_of f_is_lost f_Lost_init f_Won_init f_taking_of f_told f__law_cell_at f__law_draw f__law_may f__law_tried f__law_all_right f_law : Addr} (X : K.In h) (G : h.Ns mainGlobals mg) (hfa : mg "law" = some (.ref fa))
    {od_is_whole an_is_whole od_is_pair an_is_pair od_check_bound an_check_bound od_check_heaps an_check_heaps od_root_of an_root_of od_lesser_of an_lesser_of od_pair_of an_pair_of od_place_of an_place_of od_is_lost an_is_lost od_Lost_init an_Lost_init od_Won_init an_Won_init od_taking_of an_taking_of od_told an_told od__law_cell_at an__law_cell_at od__law_draw an__law_draw od__law_may an__law_may od__law_tried an__law_tried od__law_all_right an__law_all_right od_law an_law : Option Addr}
    {sl_is_whole sl_is_pair sl_check_bound sl_check_heaps sl_root_of sl_lesser_of sl_pair_of sl_place_of sl_is_lost sl_Lost_init sl_Won_init sl_taking_of sl_told sl__law_cell_at sl__law_draw sl__law_may sl__law_tried sl__law_all_right sl_law : Array (Option Value)}
    {oc_is_whole kV_is_whole dc_is_whole pm_is_whole cd_is_whole ct_is_whole oc_is_pair kV_is_pair dc_is_pair pm_is_pair cd_is_pair ct_is_pair oc_check_bound kV_check_bound dc_check_bound pm_check_bound cd_check_bound ct_check_bound oc_check_heaps kV_check_heaps dc_check_heaps pm_check_heaps cd_check_heaps ct_check_heaps oc_root_of kV_root_of dc_root_of pm_root_of cd_root_of ct_root_of oc_lesser_of kV_lesser_of dc_lesser_of pm_lesser_of cd_lesser_of ct_lesser_of oc_pair_of kV_pair_of dc_pair_of pm_pair_of cd_pair_of ct_pair_of oc_place_of kV_place_of dc_place_of pm_place_of cd_place_of ct_place_of oc_is_lost kV_is_lost dc_is_lost pm_is_lost cd_is_lost ct_is_lost oc_Lost_init kV_Lost_init dc_Lost_init pm_Lost_init cd_Lost_init ct_Lost_init oc_Won_init kV_Won_init dc_Won_init pm_Won_init cd_Won_init ct_Won_init oc_taking_of kV_taking_of dc_taking_of pm_taking_of cd_taking_of ct_taking_of oc_told kV_told dc_told pm_told cd_told ct_told oc__law_cell_at kV__law_cell_at dc__law_cell_at pm__law_cell_at cd__law_cell_at ct__law_cell_at oc__law_draw kV__law_draw dc__law_draw pm__law_draw cd__law_draw ct__law_draw oc__law_may kV__law_may dc__law_may pm__law_may cd__law_may ct__law_may oc__law_tried kV__law_tried dc__law_tried pm__law_tried cd__law_tried ct__law_tried oc__law_all_right kV__law_all_right dc__law_all_right pm__law_all_right cd__law_all_right ct__law_all_right oc_law kV_law dc_law pm_law cd_law ct_law : Value}
    (aC_Lost : PySem.W.nsIn K mainGlobals "Lost" = some (some (.ref C_Lost)))
    (aC_Won : PySem.W.nsIn K mainGlobals "Won" = some (some (.ref C_Won)))
    (i_Lost : PySem.W.isClsIn K C_Lost = true)
    (ty_Lost : PySem.W.typeIn K (.ref C_Lost) = some (.type "type"))
    (su_Lost_Lost : PySem.W.subIn K (.ref C_Lost) (.ref C_Lost) = some true)
    (i_Won : PySem.W.isClsIn K C_Won = true)
    (ty_Won : PySem.W.typeIn K (.ref C_Won) = some (.type "type"))
    (su_Won_Won : PySem.W.subIn K (.ref C_Won) (.ref C_Won) = some true)
    (su_Lost_Won : PySem.W.subIn K (.ref C_Lost) (.ref C_Won) = some false)
    (ha_Lost : PySem.W.findIn K (.ref C_Lost) "__class__" = some (some (.builtin "object.__class__")))
    (hm_Lost : PySem.W.mroIn K C_Lost (.type "object") = some true)
    (su_Won_Lost : PySem.W.subIn K (.ref C_Won) (.ref C_Lost) = some false)
    (ha_Won : PySem.W.findIn K (.ref C_Won) "__class__" = some (some (.builtin "object.__class__")))
    (hm_Won : PySem.W.mroIn K C_Won (.type "object") = some true)
    (hn : PySem.W.specialIn K (.builtin "object.__class__") "__get__" = some (some (.builtin "getset_descriptor.__get__")))
    (htk : PySem.W.takesIn K (.builtin "object.__class__") = some true)
    (a_is_whole : PySem.W.nsIn K mainGlobals "is_whole" = some (some (.ref f_is_whole)))
    (l_is_whole : K.lookup f_is_whole = some ⟨oc_is_whole, od_is_whole, .func (PySem.W.fnOf "is_whole" "is_whole" (defArgs s_is_whole) (defBody s_is_whole) (defScope s_is_whole) .none kV_is_whole dc_is_whole pm_is_whole an_is_whole cd_is_whole ct_is_whole), sl_is_whole⟩)
    (c_is_whole : PySem.W.codeIn K cd_is_whole "is_whole" = true)
    (k_is_whole : PySem.W.keepIn K (.ref f_is_whole) = true)
    (a_is_pair : PySem.W.nsIn K mainGlobals "is_pair" = some (some (.ref f_is_pair)))
    (l_is_pair : K.lookup f_is_pair = some ⟨oc_is_pair, od_is_pair, .func (PySem.W.fnOf "is_pair" "is_pair" (defArgs s_is_pair) (defBody s_is_pair) (defScope s_is_pair) .none kV_is_pair dc_is_pair pm_is_pair an_is_pair cd_is_pair ct_is_pair), sl_is_pair⟩)
    (c_is_pair : PySem.W.codeIn K cd_is_pair "is_pair" = true)
    (k_is_pair : PySem.W.keepIn K (.ref f_is_pair) = true)
    (a_check_bound : PySem.W.nsIn K mainGlobals "check_bound" = some (some (.ref f_check_bound)))
    (l_check_bound : K.lookup f_check_bound = some ⟨oc_check_bound, od_check_bound, .func (PySem.W.fnOf "check_bound" "check_bound" (defArgs s_check_bound) (defBody s_check_bound) (defScope s_check_bound) .none kV_check_bound dc_check_bound pm_check_bound an_check_bound cd_check_bound ct_check_bound), sl_check_bound⟩)
    (c_check_bound : PySem.W.codeIn K cd_check_bound "check_bound" = true)
    (k_check_bound : PySem.W.keepIn K (.ref f_check_bound) = true)
    (a_check_heaps : PySem.W.nsIn K mainGlobals "check_heaps" = some (some (.ref f_check_heaps)))
    (l_check_heaps : K.lookup f_check_heaps = some ⟨oc_check_heaps, od_check_heaps, .func (PySem.W.fnOf "check_heaps" "check_heaps" (defArgs s_check_heaps) (defBody s_check_heaps) (defScope s_check_heaps) .none kV_check_heaps dc_check_heaps pm_check_heaps an_check_heaps cd_check_heaps ct_check_heaps), sl_check_heaps⟩)
    (c_check_heaps : PySem.W.codeIn K cd_check_heaps "check_heaps" = true)
    (k_check_heaps : PySem.W.keepIn K (.ref f_check_heaps) = true)
    (a_root_of : PySem.W.nsIn K mainGlobals "root_of" = some (some (.ref f_root_of)))
    (l_root_of : K.lookup f_root_of = some ⟨oc_root_of, od_root_of, .func (PySem.W.fnOf "root_of" "root_of" (defArgs s_root_of) (defBody s_root_of) (defScope s_root_of) .none kV_root_of dc_root_of pm_root_of an_root_of cd_root_of ct_root_of), sl_root_of⟩)
    (c_root_of : PySem.W.codeIn K cd_root_of "root_of" = true)
    (k_root_of : PySem.W.keepIn K (.ref f_root_of) = true)
    (a_lesser_of : PySem.W.nsIn K mainGlobals "lesser_of" = some (some (.ref f_lesser_of)))
    (l_lesser_of : K.lookup f_lesser_of = some ⟨oc_lesser_of, od_lesser_of, .func (PySem.W.fnOf "lesser_of" "lesser_of" (defArgs s_lesser_of) (defBody s_lesser_of) (defScope s_lesser_of) .none kV_lesser_of dc_lesser_of pm_lesser_of an_lesser_of cd_lesser_of ct_lesser_of), sl_lesser_of⟩)
    (c_lesser_of : PySem.W.codeIn K cd_lesser_of "lesser_of" = true)
    (k_lesser_of : PySem.W.keepIn K (.ref f_lesser_of) = true)
    (a_pair_of : PySem.W.nsIn K mainGlobals "pair_of" = some (some (.ref f_pair_of)))
    (l_pair_of : K.lookup f_pair_of = some ⟨oc_pair_of, od_pair_of, .func (PySem.W.fnOf "pair_of" "pair_of" (defArgs s_pair_of) (defBody s_pair_of) (defScope s_pair_of) .none kV_pair_of dc_pair_of pm_pair_of an_pair_of cd_pair_of ct_pair_of), sl_pair_of⟩)
    (c_pair_of : PySem.W.codeIn K cd_pair_of "pair_of" = true)
    (k_pair_of : PySem.W.keepIn K (.ref f_pair_of) = true)
    (a_place_of : PySem.W.nsIn K mainGlobals "place_of" = some (some (.ref f_place_of)))
    (l_place_of : K.lookup f_place_of = some ⟨oc_place_of, od_place_of, .func (PySem.W.fnOf "place_of" "place_of" (defArgs s_place_of) (defBody s_place_of) (defScope s_place_of) .none kV_place_of dc_place_of pm_place_of an_place_of cd_place_of ct_place_of), sl_place_of⟩)
    (c_place_of : PySem.W.codeIn K cd_place_of "place_of" = true)
    (k_place_of : PySem.W.keepIn K (.ref f_place_of) = true)
    (a_is_lost : PySem.W.nsIn K mainGlobals "is_lost" = some (some (.ref f_is_lost)))
    (l_is_lost : K.lookup f_is_lost = some ⟨oc_is_lost, od_is_lost, .func (PySem.W.fnOf "is_lost" "is_lost" (defArgs s_is_lost) (defBody s_is_lost) (defScope s_is_lost) .none kV_is_lost dc_is_lost pm_is_lost an_is_lost cd_is_lost ct_is_lost), sl_is_lost⟩)
    (c_is_lost : PySem.W.codeIn K cd_is_lost "is_lost" = true)
    (k_is_lost : PySem.W.keepIn K (.ref f_is_lost) = true)
    (a_Lost_init : PySem.W.findIn K (.ref C_Lost) "__init__" = some (some (.ref f_Lost_init)))
    (i_Lost_init : PySem.W.isFn K (.ref f_Lost_init) = true)
    (l_Lost_init : K.lookup f_Lost_init = some ⟨oc_Lost_init, od_Lost_init, .func (PySem.W.fnOf "__init__" "Lost.__init__" (defArgs s_Lost_init) (defBody s_Lost_init) (defScope s_Lost_init) .none kV_Lost_init dc_Lost_init pm_Lost_init an_Lost_init cd_Lost_init ct_Lost_init), sl_Lost_init⟩)
    (c_Lost_init : PySem.W.codeIn K cd_Lost_init "Lost.__init__" = true)
    (k_Lost_init : PySem.W.keepIn K (.ref f_Lost_init) = true)
    (a_Won_init : PySem.W.findIn K (.ref C_Won) "__init__" = some (some (.ref f_Won_init)))
    (i_Won_init : PySem.W.isFn K (.ref f_Won_init) = true)
    (l_Won_init : K.lookup f_Won_init = some ⟨oc_Won_init, od_Won_init, .func (PySem.W.fnOf "__init__" "Won.__init__" (defArgs s_Won_init) (defBody s_Won_init) (defScope s_Won_init) .none kV_Won_init dc_Won_init pm_Won_init an_Won_init cd_Won_init ct_Won_init), sl_Won_init⟩)
    (c_Won_init : PySem.W.codeIn K cd_Won_init "Won.__init__" = true)
    (k_Won_init : PySem.W.keepIn K (.ref f_Won_init) = true)
    (a_taking_of : PySem.W.nsIn K mainGlobals "taking_of" = some (some (.ref f_taking_of)))
    (l_taking_of : K.lookup f_taking_of = some ⟨oc_taking_of, od_taking_of, .func (PySem.W.fnOf "taking_of" "taking_of" (defArgs s_taking_of) (defBody s_taking_of) (defScope s_taking_of) .none kV_taking_of dc_taking_of pm_taking_of an_taking_of cd_taking_of ct_taking_of), sl_taking_of⟩)
    (c_taking_of : PySem.W.codeIn K cd_taking_of "taking_of" = true)
    (k_taking_of : PySem.W.keepIn K (.ref f_taking_of) = true)
    (a_told : PySem.W.nsIn K mainGlobals "told" = some (some (.ref f_told)))
    (l_told : K.lookup f_told = some ⟨oc_told, od_told, .func (PySem.W.fnOf "told" "told" (defArgs s_told) (defBody s_told) (defScope s_told) .none kV_told dc_told pm_told an_told cd_told ct_told), sl_told⟩)
    (c_told : PySem.W.codeIn K cd_told "told" = true)
    (k_told : PySem.W.keepIn K (.ref f_told) = true)
    (a__law_cell_at : PySem.W.nsIn K mainGlobals "_law_cell_at" = some (some (.ref f__law_cell_at)))
    (l__law_cell_at : K.lookup f__law_cell_at = some ⟨oc__law_cell_at, od__law_cell_at, .func (PySem.W.fnOf "_law_cell_at" "_law_cell_at" (defArgs s__law_cell_at) (defBody s__law_cell_at) (defScope s__law_cell_at) .none kV__law_cell_at dc__law_cell_at pm__law_cell_at an__law_cell_at cd__law_cell_at ct__law_cell_at), sl__law_cell_at⟩)
    (c__law_cell_at : PySem.W.codeIn K cd__law_cell_at "_law_cell_at" = true)
    (k__law_cell_at : PySem.W.keepIn K (.ref f__law_cell_at) = true)
    (a__law_draw : PySem.W.nsIn K mainGlobals "_law_draw" = some (some (.ref f__law_draw)))
    (l__law_draw : K.lookup f__law_draw = some ⟨oc__law_draw, od__law_draw, .func (PySem.W.fnOf "_law_draw" "_law_draw" (defArgs s__law_draw) (defBody s__law_draw) (defScope s__law_draw) .none kV__law_draw dc__law_draw pm__law_draw an__law_draw cd__law_draw ct__law_draw), sl__law_draw⟩)
    (c__law_draw : PySem.W.codeIn K cd__law_draw "_law_draw" = true)
    (k__law_draw : PySem.W.keepIn K (.ref f__law_draw) = true)
    (a__law_may : PySem.W.nsIn K mainGlobals "_law_may" = some (some (.ref f__law_may)))
    (l__law_may : K.lookup f__law_may = some ⟨oc__law_may, od__law_may, .func (PySem.W.fnOf "_law_may" "_law_may" (defArgs s__law_may) (defBody s__law_may) (defScope s__law_may) .none kV__law_may dc__law_may pm__law_may an__law_may cd__law_may ct__law_may), sl__law_may⟩)
    (c__law_may : PySem.W.codeIn K cd__law_may "_law_may" = true)
    (k__law_may : PySem.W.keepIn K (.ref f__law_may) = true)
    (a__law_tried : PySem.W.nsIn K mainGlobals "_law_tried" = some (some (.ref f__law_tried)))
    (l__law_tried : K.lookup f__law_tried = some ⟨oc__law_tried, od__law_tried, .func (PySem.W.fnOf "_law_tried" "_law_tried" (defArgs s__law_tried) (defBody s__law_tried) (defScope s__law_tried) .none kV__law_tried dc__law_tried pm__law_tried an__law_tried cd__law_tried ct__law_tried), sl__law_tried⟩)
    (c__law_tried : PySem.W.codeIn K cd__law_tried "_law_tried" = true)
    (k__law_tried : PySem.W.keepIn K (.ref f__law_tried) = true)
    (a__law_all_right : PySem.W.nsIn K mainGlobals "_law_all_right" = some (some (.ref f__law_all_right)))
    (l__law_all_right : K.lookup f__law_all_right = some ⟨oc__law_all_right, od__law_all_right, .func (PySem.W.fnOf "_law_all_right" "_law_all_right" (defArgs s__law_all_right) (defBody s__law_all_right) (defScope s__law_all_right) .none kV__law_all_right dc__law_all_right pm__law_all_right an__law_all_right cd__law_all_right ct__law_all_right), sl__law_all_right⟩)
    (c__law_all_right : PySem.W.codeIn K cd__law_all_right "_law_all_right" = true)
    (k__law_all_right : PySem.W.keepIn K (.ref f__law_all_right) = true)
    (a_law : PySem.W.nsIn K mainGlobals "law" = some (some (.ref f_law)))
    (l_law : K.lookup f_law = some ⟨oc_law, od_law, .func (PySem.W.fnOf "law" "law" (defArgs s_law) (defBody s_law) (defScope s_law) .none kV_law dc_law pm_law an_law cd_law ct_law), sl_law⟩)
    (c_law : PySem.W.codeIn K cd_law "law" = true)
    (k_law : PySem.W.keepIn K (.ref f_law) = true)
    (pg_Lost : PySem.W.plainGet K C_Lost Str.empty = true)
    (hd_Lost : PySem.W.hasDictIn K C_Lost = true)
    (po_Lost : PySem.W.plainOver K C_Lost = true)
    (sa_Lost : PySem.W.findIn K (.ref C_Lost) "__setattr__" = some (some (.builtin "object.__setattr__")))
    (mk_Lost : PySem.W.makesIn K C_Lost = true)
    (kc_Lost : PySem.W.keepIn K (.ref C_Lost) = true)
    (nf_Lost_number : PySem.W.findIn K (.ref C_Lost) "number" = some none)
    (pg_Won : PySem.W.plainGet K C_Won Str.empty = true)
    (hd_Won : PySem.W.hasDictIn K C_Won = true)
    (po_Won : PySem.W.plainOver K C_Won = true)
    (sa_Won : PySem.W.findIn K (.ref C_Won) "__setattr__" = some (some (.builtin "object.__setattr__")))
    (mk_Won : PySem.W.makesIn K C_Won = true)
    (kc_Won : PySem.W.keepIn K (.ref C_Won) = true)
    (nf_Won_taking : PySem.W.findIn K (.ref C_Won) "taking" = some none)
    (z_isinstance : PySem.W.nsIn K mainGlobals "isinstance" = some none)
    (z_len : PySem.W.nsIn K mainGlobals "len" = some none)
    (z_max : PySem.W.nsIn K mainGlobals "max" = some none)
    (z_min : PySem.W.nsIn K mainGlobals "min" = some none)
    (z_abs : PySem.W.nsIn K mainGlobals "abs" = some none)
    (z_int : PySem.W.nsIn K mainGlobals "int" = some none)
    (z_bool : PySem.W.nsIn K mainGlobals "bool" = some none)
    (z_tuple : PySem.W.nsIn K mainGlobals "tuple" = some none)
    (z_range : PySem.W.nsIn K mainGlobals "range" = some none)
    : ∃ fd : FuncData, (∀ (s : Shared) (v : Value), BindsTo s fd ⟨[v], []⟩ [("_law_script", v)]) ∧ ∀ base : Heap, K.In base → base.Ns mainGlobals mg → FnOk l.prog w K mg base CX0 7 fa fd ["_law_script"] (sp_law K) := by
  have e := hfa.symm.trans (PySem.W.mg_of X G a_law)
  cases e
  have F_is_whole := fun_mk (st := s_is_whole) l_is_whole c_is_whole k_is_whole
  have b_is_whole := F_is_whole.binds (ps := ["thing"]) fun _ _ _ _ _ _ us hl => match us, hl with | [_], _ => rfl
  have F_is_pair := fun_mk (st := s_is_pair) l_is_pair c_is_pair k_is_pair
  have b_is_pair := F_is_pair.binds (ps := ["thing"]) fun _ _ _ _ _ _ us hl => match us, hl with | [_], _ => rfl
  have F_check_bound := fun_mk (st := s_check_bound) l_check_bound c_check_bound k_check_bound
  have b_check_bound := F_check_bound.binds (ps := ["bound"]) fun _ _ _ _ _ _ us hl => match us, hl with | [_], _ => rfl
  have F_check_heaps := fun_mk (st := s_check_heaps) l_check_heaps c_check_heaps k_check_heaps
  have b_check_heaps := F_check_heaps.binds (ps := ["heaps"]) fun _ _ _ _ _ _ us hl => match us, hl with | [_], _ => rfl
  have F_root_of := fun_mk (st := s_root_of) l_root_of c_root_of k_root_of
  have b_root_of := F_root_of.binds (ps := ["number"]) fun _ _ _ _ _ _ us hl => match us, hl with | [_], _ => rfl
  have F_lesser_of := fun_mk (st := s_lesser_of) l_lesser_of c_lesser_of k_lesser_of
  have b_lesser_of := F_lesser_of.binds (ps := ["bound", "number"]) fun _ _ _ _ _ _ us hl => match us, hl with | [_, _], _ => rfl
  have F_pair_of := fun_mk (st := s_pair_of) l_pair_of c_pair_of k_pair_of
  have b_pair_of := F_pair_of.binds (ps := ["bound", "number"]) fun _ _ _ _ _ _ us hl => match us, hl with | [_, _], _ => rfl
  have F_place_of := fun_mk (st := s_place_of) l_place_of c_place_of k_place_of
  have b_place_of := F_place_of.binds (ps := ["bound", "number"]) fun _ _ _ _ _ _ us hl => match us, hl with | [_, _], _ => rfl
  have F_is_lost := fun_mk (st := s_is_lost) l_is_lost c_is_lost k_is_lost
  have b_is_lost := F_is_lost.binds (ps := ["bound", "heaps"]) fun _ _ _ _ _ _ us hl => match us, hl with | [_, _], _ => rfl
  have F_Lost_init := fun_mk (st := s_Lost_init) l_Lost_init c_Lost_init k_Lost_init
  have b_Lost_init := F_Lost_init.binds (ps := ["self", "number"]) fun _ _ _ _ _ _ us hl => match us, hl with | [_, _], _ => rfl
  have F_Won_init := fun_mk (st := s_Won_init) l_Won_init c_Won_init k_Won_init
  have b_Won_init := F_Won_init.binds (ps := ["self", "taking"]) fun _ _ _ _ _ _ us hl => match us, hl with | [_, _], _ => rfl
  have F_taking_of := fun_mk (st := s_taking_of) l_taking_of c_taking_of k_taking_of
  have b_taking_of := F_taking_of.binds (ps := ["bound", "low", "high"]) fun _ _ _ _ _ _ us hl => match us, hl with | [_, _, _], _ => rfl
  have F_told := fun_mk (st := s_told) l_told c_told k_told
  have b_told := F_told.binds (ps := ["bound", "heaps"]) fun _ _ _ _ _ _ us hl => match us, hl with | [_, _], _ => rfl
  have F__law_cell_at := fun_mk (st := s__law_cell_at) l__law_cell_at c__law_cell_at k__law_cell_at
  have b__law_cell_at := F__law_cell_at.binds (ps := ["_law_script", "_law_k"]) fun _ _ _ _ _ _ us hl => match us, hl with | [_, _], _ => rfl
  have F__law_draw := fun_mk (st := s__law_draw) l__law_draw c__law_draw k__law_draw
  have b__law_draw := F__law_draw.binds (ps := ["_law_cell", "_law_k", "_law_many"]) fun _ _ _ _ _ _ us hl => match us, hl with | [_, _, _], _ => rfl
  have F__law_may := fun_mk (st := s__law_may) l__law_may c__law_may k__law_may
  have b__law_may := F__law_may.binds (ps := ["_law_bound", "_law_heaps", "_law_taking"]) fun _ _ _ _ _ _ us hl => match us, hl with | [_, _, _], _ => rfl
  have F__law_tried := fun_mk (st := s__law_tried) l__law_tried c__law_tried k__law_tried
  have b__law_tried := F__law_tried.binds (ps := ["_law_bound", "_law_most"]) fun _ _ _ _ _ _ us hl => match us, hl with | [_, _], _ => rfl
  have F__law_all_right := fun_mk (st := s__law_all_right) l__law_all_right c__law_all_right k__law_all_right
  have b__law_all_right := F__law_all_right.binds (ps := ["_law_bound", "_law_most"]) fun _ _ _ _ _ _ us hl => match us, hl with | [_, _], _ => rfl
  have F_law := fun_mk (st := s_law) l_law c_law k_law
  have b_law := F_law.binds (ps := ["_law_script"]) fun _ _ _ _ _ _ us hl => match us, hl with | [_], _ => rfl
  exact ⟨PySem.W.fnOf "law" "law" (defArgs s_law) (defBody s_law) (defScope s_law) .none kV_law dc_law pm_law an_law cd_law ct_law, fun s v => .of_eq rfl, fun base _ _ => ok_law { a_Lost := C_Lost, g_Lost := PySem.W.mg_of X G aC_Lost, a_Won := C_Won, g_Won := PySem.W.mg_of X G aC_Won, i_Lost := i_Lost, ty_Lost := ty_Lost, su_Lost_Lost := su_Lost_Lost, i_Won := i_Won, ty_Won := ty_Won, su_Won_Won := su_Won_Won, su_Lost_Won := su_Lost_Won, ha_Lost := ha_Lost, hm_Lost := hm_Lost, su_Won_Lost := su_Won_Lost, ha_Won := ha_Won, hm_Won := hm_Won, hn := hn, htk := htk, g_is_whole := PySem.W.mg_of X G a_is_whole, a_is_whole := f_is_whole, d_is_whole := _, F_is_whole := F_is_whole, b_is_whole := b_is_whole, g_is_pair := PySem.W.mg_of X G a_is_pair, a_is_pair := f_is_pair, d_is_pair := _, F_is_pair := F_is_pair, b_is_pair := b_is_pair, g_check_bound := PySem.W.mg_of X G a_check_bound, a_check_bound := f_check_bound, d_check_bound := _, F_check_bound := F_check_bound, b_check_bound := b_check_bound, g_check_heaps := PySem.W.mg_of X G a_check_heaps, a_check_heaps := f_check_heaps, d_check_heaps := _, F_check_heaps := F_check_heaps, b_check_heaps := b_check_heaps, g_root_of := PySem.W.mg_of X G a_root_of, a_root_of := f_root_of, d_root_of := _, F_root_of := F_root_of, b_root_of := b_root_of, g_lesser_of := PySem.W.mg_of X G a_lesser_of, a_lesser_of := f_lesser_of, d_lesser_of := _, F_lesser_of := F_lesser_of, b_lesser_of := b_lesser_of, g_pair_of := PySem.W.mg_of X G a_pair_of, a_pair_of := f_pair_of, d_pair_of := _, F_pair_of := F_pair_of, b_pair_of := b_pair_of, g_place_of := PySem.W.mg_of X G a_place_of, a_place_of := f_place_of, d_place_of := _, F_place_of := F_place_of, b_place_of := b_place_of, g_is_lost := PySem.W.mg_of X G a_is_lost, a_is_lost := f_is_lost, d_is_lost := _, F_is_lost := F_is_lost, b_is_lost := b_is_lost, a_Lost_init := f_Lost_init, d_Lost_init := _, F_Lost_init := F_Lost_init, b_Lost_init := b_Lost_init, a_Won_init := f_Won_init, d_Won_init := _, F_Won_init := F_Won_init, b_Won_init := b_Won_init, g_taking_of := PySem.W.mg_of X G a_taking_of, a_taking_of := f_taking_of, d_taking_of := _, F_taking_of := F_taking_of, b_taking_of := b_taking_of, g_told := PySem.W.mg_of X G a_told, a_told := f_told, d_told := _, F_told := F_told, b_told := b_told, g__law_cell_at := PySem.W.mg_of X G a__law_cell_at, a__law_cell_at := f__law_cell_at, d__law_cell_at := _, F__law_cell_at := F__law_cell_at, b__law_cell_at := b__law_cell_at, g__law_draw := PySem.W.mg_of X G a__law_draw, a__law_draw := f__law_draw, d__law_draw := _, F__law_draw := F__law_draw, b__law_draw := b__law_draw, g__law_may := PySem.W.mg_of X G a__law_may, a__law_may := f__law_may, d__law_may := _, F__law_may := F__law_may, b__law_may := b__law_may, g__law_tried := PySem.W.mg_of X G a__law_tried, a__law_tried := f__law_tried, d__law_tried := _, F__law_tried := F__law_tried, b__law_tried := b__law_tried, g__law_all_right := PySem.W.mg_of X G a__law_all_right, a__law_all_right := f__law_all_right, d__law_all_right := _, F__law_all_right := F__law_all_right, b__law_all_right := b__law_all_right, g_law := PySem.W.mg_of X G a_law, a_law := fa, d_law := _, F_law := F_law, b_law := b_law, c_Lost := ⟨pg_Lost, hd_Lost, po_Lost, sa_Lost⟩, m_Lost := ⟨mk_Lost, a_Lost_init, i_Lost_init, kc_Lost⟩, nf_Lost_number := nf_Lost_number, c_Won := ⟨pg_Won, hd_Won, po_Won, sa_Won⟩, m_Won := ⟨mk_Won, a_Won_init, i_Won_init, kc_Won⟩, nf_Won_taking := nf_Won_taking, n_isinstance := PySem.W.mg_none_of X G z_isinstance, n_len := PySem.W.mg_none_of X G z_len, n_max := PySem.W.mg_none_of X G z_max, n_min := PySem.W.mg_none_of X G z_min, n_abs := PySem.W.mg_none_of X G z_abs, n_int := PySem.W.mg_none_of X G z_int, n_bool := PySem.W.mg_none_of X G z_bool, n_tuple := PySem.W.mg_none_of X G z_tuple, n_range := PySem.W.mg_none_of X G z_range }⟩
end TW
open PySem PySem.W PyProof.Rows
set_option maxRecDepth 100000 in
set_option maxHeartbeats 0 in
theorem PySem.Challenge.cw_twoheaps_k03_tried_holds : PySem.Challenge.rw_twoheaps_k03_tried.Holds := by
  w_on; o_law; k_head; (case hw => w_witness2)
  k_fill
  refine L2.walk_ofB (l := PySem.Challenge.rw_twoheaps_k03_tried) (n := 63) (k := 7) (x := "_law_script") (CX := fun _ => L2.CX0) (sp := fun w => TW.sp_law _) rfl (by decide) rfl ⟨rfl, by decide, by decide⟩ (fun w h Y => PySem.W.kIn_of Y) ?F (fun _ _ a ns hl hb _ hS => ⟨a, ns, rfl, hS, hl, fun n hn => TH.bd_mono (TH.bd_bits (hb n hn)) (by decide), fun _ => rfl⟩) (fun _ _ _ _ _ h => h)
  case F =>
    intro w mg fa h KX G hmg
    refine' TW.all_mk KX G hmg ?aC_Lost ?aC_Won ?i_Lost ?ty_Lost ?su_Lost_Lost ?i_Won ?ty_Won ?su_Won_Won ?su_Lost_Won ?ha_Lost ?hm_Lost ?su_Won_Lost ?ha_Won ?hm_Won ?hn ?htk ?a_is_whole ?l_is_whole ?c_is_whole ?k_is_whole ?a_is_pair ?l_is_pair ?c_is_pair ?k_is_pair ?a_check_bound ?l_check_bound ?c_check_bound ?k_check_bound ?a_check_heaps ?l_check_heaps ?c_check_heaps ?k_check_heaps ?a_root_of ?l_root_of ?c_root_of ?k_root_of ?a_lesser_of ?l_lesser_of ?c_lesser_of ?k_lesser_of ?a_pair_of ?l_pair_of ?c_pair_of ?k_pair_of ?a_place_of ?l_place_of ?c_place_of ?k_place_of ?a_is_lost ?l_is_lost ?c_is_lost ?k_is_lost ?a_Lost_init ?i_Lost_init ?l_Lost_init ?c_Lost_init ?k_Lost_init ?a_Won_init ?i_Won_init ?l_Won_init ?c_Won_init ?k_Won_init ?a_taking_of ?l_taking_of ?c_taking_of ?k_taking_of ?a_told ?l_told ?c_told ?k_told ?a__law_cell_at ?l__law_cell_at ?c__law_cell_at ?k__law_cell_at ?a__law_draw ?l__law_draw ?c__law_draw ?k__law_draw ?a__law_may ?l__law_may ?c__law_may ?k__law_may ?a__law_tried ?l__law_tried ?c__law_tried ?k__law_tried ?a__law_all_right ?l__law_all_right ?c__law_all_right ?k__law_all_right ?a_law ?l_law ?c_law ?k_law ?pg_Lost ?hd_Lost ?po_Lost ?sa_Lost ?mk_Lost ?kc_Lost ?nf_Lost_number ?pg_Won ?hd_Won ?po_Won ?sa_Won ?mk_Won ?kc_Won ?nf_Won_taking ?z_isinstance ?z_len ?z_max ?z_min ?z_abs ?z_int ?z_bool ?z_tuple ?z_range
    (case aC_Lost => k_is); (case aC_Won => k_is); (case i_Lost => k_is); (case ty_Lost => k_is); (case su_Lost_Lost => k_is); (case i_Won => k_is)
    (case ty_Won => k_is); (case su_Won_Won => k_is); (case su_Lost_Won => k_is); (case ha_Lost => k_is); (case hm_Lost => k_is); (case su_Won_Lost => k_is)
    (case ha_Won => k_is); (case hm_Won => k_is); (case hn => k_is); (case htk => k_is); (case a_is_whole => k_is); (case l_is_whole => k_is)
    (case c_is_whole => k_is); (case k_is_whole => k_is); (case a_is_pair => k_is); (case l_is_pair => k_is); (case c_is_pair => k_is); (case k_is_pair => k_is)
    (case a_check_bound => k_is); (case l_check_bound => k_is); (case c_check_bound => k_is); (case k_check_bound => k_is); (case a_check_heaps => k_is); (case l_check_heaps => k_is)
    (case c_check_heaps => k_is); (case k_check_heaps => k_is); (case a_root_of => k_is); (case l_root_of => k_is); (case c_root_of => k_is); (case k_root_of => k_is)
    (case a_lesser_of => k_is); (case l_lesser_of => k_is); (case c_lesser_of => k_is); (case k_lesser_of => k_is); (case a_pair_of => k_is); (case l_pair_of => k_is)
    (case c_pair_of => k_is); (case k_pair_of => k_is); (case a_place_of => k_is); (case l_place_of => k_is); (case c_place_of => k_is); (case k_place_of => k_is)
    (case a_is_lost => k_is); (case l_is_lost => k_is); (case c_is_lost => k_is); (case k_is_lost => k_is); (case a_Lost_init => k_is); (case i_Lost_init => k_is)
    (case l_Lost_init => k_is); (case c_Lost_init => k_is); (case k_Lost_init => k_is); (case a_Won_init => k_is); (case i_Won_init => k_is); (case l_Won_init => k_is)
    (case c_Won_init => k_is); (case k_Won_init => k_is); (case a_taking_of => k_is); (case l_taking_of => k_is); (case c_taking_of => k_is); (case k_taking_of => k_is)
    (case a_told => k_is); (case l_told => k_is); (case c_told => k_is); (case k_told => k_is); (case a__law_cell_at => k_is); (case l__law_cell_at => k_is)
    (case c__law_cell_at => k_is); (case k__law_cell_at => k_is); (case a__law_draw => k_is); (case l__law_draw => k_is); (case c__law_draw => k_is); (case k__law_draw => k_is)
    (case a__law_may => k_is); (case l__law_may => k_is); (case c__law_may => k_is); (case k__law_may => k_is); (case a__law_tried => k_is); (case l__law_tried => k_is)
    (case c__law_tried => k_is); (case k__law_tried => k_is); (case a__law_all_right => k_is); (case l__law_all_right => k_is); (case c__law_all_right => k_is); (case k__law_all_right => k_is)
    (case a_law => k_is); (case l_law => k_is); (case c_law => k_is); (case k_law => k_is); (case pg_Lost => k_is); (case hd_Lost => k_is)
    (case po_Lost => k_is); (case sa_Lost => k_is); (case mk_Lost => k_is); (case kc_Lost => k_is); (case nf_Lost_number => k_is); (case pg_Won => k_is)
    (case hd_Won => k_is); (case po_Won => k_is); (case sa_Won => k_is); (case mk_Won => k_is); (case kc_Won => k_is); (case nf_Won_taking => k_is)
    (case z_isinstance => k_is); (case z_len => k_is); (case z_max => k_is); (case z_min => k_is); (case z_abs => k_is); (case z_int => k_is)
    (case z_bool => k_is); (case z_tuple => k_is); (case z_range => k_is)
