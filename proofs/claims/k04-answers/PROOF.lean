import PyProof.Rows.All
import Wide.All
import OpenK.AllK
import Wide.FinOn
import HandS.ForMost
import HandS.ForExc
import HandS.Style
import HandS.WideBits
import HandS.IsInst
import HandS.Codes
import KE.DatumOrd
import HandS.EndBits
import PySem.Challenge.RW_twoheaps_k04_answers_by_hand

set_option Elab.async false
set_option linter.all false
set_option maxRecDepth 100000
set_option maxHeartbeats 1000000
set_option exponentiation.threshold 10000

/-! Two heaps: the mathematics, plain Lean, no program in sight. -/
namespace TH

/-! ### the root -/
def isqGo (n : Nat) : Nat → Nat
  | 0 => 0
  | k + 1 => if (k + 1) * (k + 1) ≤ n then k + 1 else isqGo n k
def isq (n : Nat) : Nat := isqGo n n
theorem isqGo_sq (n k : Nat) : isqGo n k * isqGo n k ≤ n := by
  induction k with
  | zero => simp [isqGo]
  | succ k ih => unfold isqGo; split <;> assumption
theorem isqGo_lt (n k : Nat) (h : n < (k + 1) * (k + 1)) : n < (isqGo n k + 1) * (isqGo n k + 1) := by
  induction k with
  | zero => simpa [isqGo] using h
  | succ k ih =>
    unfold isqGo
    split
    · exact h
    · exact ih (by omega)
theorem isq_sq (n : Nat) : isq n * isq n ≤ n := isqGo_sq n n
theorem isq_lt (n : Nat) : n < (isq n + 1) * (isq n + 1) := isqGo_lt n n (by
  have : (n + 1) * (n + 1) = n * n + n + n + 1 := by grind
  omega)
/-- the root of a whole number -/
def rt (n : Int) : Int := (isq n.toNat : Int)
theorem rt_nn (n : Int) : 0 ≤ rt n := Int.natCast_nonneg _
theorem rt_sq {n : Int} (h : 0 ≤ n) : rt n * rt n ≤ n := by
  have := isq_sq n.toNat
  have e : ((n.toNat : Nat) : Int) = n := Int.toNat_of_nonneg h
  unfold rt
  rw [← Int.natCast_mul]
  omega
theorem rt_lt {n : Int} (h : 0 ≤ n) : n < (rt n + 1) * (rt n + 1) := by
  have := isq_lt n.toNat
  have e : ((n.toNat : Nat) : Int) = n := Int.toNat_of_nonneg h
  unfold rt
  have e2 : ((isq n.toNat : Int) + 1) * ((isq n.toNat : Int) + 1) = (((isq n.toNat + 1) * (isq n.toNat + 1) : Nat) : Int) := by
    simp only [Int.natCast_mul, Int.natCast_add]; rfl
  rw [e2]
  omega
theorem sq_mono {a b : Int} (h0 : 0 ≤ a) (h : a ≤ b) : a * a ≤ b * b := by
  have h1 : a * a ≤ a * b := Int.mul_le_mul_of_nonneg_left h h0
  have h2 : a * b ≤ b * b := Int.mul_le_mul_of_nonneg_right h (by omega)
  omega
theorem sq_lt_imp {a b : Int} (hb : 0 ≤ b) (h : a * a < b * b) : a < b := by
  have := fun z : b ≤ a => sq_mono hb z
  omega
theorem rt_uniq {n r : Int} (hn : 0 ≤ n) (hr : 0 ≤ r) (h1 : r * r ≤ n) (h2 : n < (r + 1) * (r + 1)) : rt n = r := by
  have a := rt_sq hn
  have b := rt_lt hn
  have c := rt_nn n
  have d := sq_lt_imp (a := rt n) (b := r + 1) (by omega) (by omega)
  have e := sq_lt_imp (a := r) (b := rt n + 1) (by omega) (by omega)
  omega
theorem rt_le {n r : Int} (hn : 0 ≤ n) (hr : 0 ≤ r) (h : n < (r + 1) * (r + 1)) : rt n ≤ r := by
  have a := rt_sq hn
  have d := sq_lt_imp (a := rt n) (b := r + 1) (by omega) (by omega)
  omega
theorem le_rt {n r : Int} (hn : 0 ≤ n) (h : r * r ≤ n) : r ≤ rt n := by
  have b := rt_lt hn
  have c := rt_nn n
  have e := sq_lt_imp (a := r) (b := rt n + 1) (by omega) (by omega)
  omega
/-- a turn of the root's loop stays above -/
theorem newton_ge {n x : Int} (hn : 0 ≤ n) (hx : 0 < x) : rt n ≤ (x + n / x) / 2 := by
  have a := rt_sq hn
  have c := rt_nn n
  have k : 2 * rt n - x ≤ n / x := by
    rw [Int.le_ediv_iff_mul_le hx]
    have q : 0 ≤ (rt n - x) * (rt n - x) := by
      rcases Int.le_total (rt n) x with h | h
      · have := Int.mul_nonneg (show 0 ≤ x - rt n by omega) (show 0 ≤ x - rt n by omega)
        grind
      · exact Int.mul_nonneg (by omega) (by omega)
    grind
  omega
theorem newton_lt {n x : Int} (hx : 0 < x) (h : n < x * x) : (x + n / x) / 2 < x := by
  have : n / x < x := Int.ediv_lt_of_lt_mul hx h
  omega
theorem newton_nn {n x : Int} (hn : 0 ≤ n) (hx : 0 < x) : 0 ≤ (x + n / x) / 2 := by
  have := Int.ediv_nonneg hn (Int.le_of_lt hx)
  omega

theorem newton {n x : Int} (hn : 0 ≤ n) (h0 : 0 ≤ x) (hx : rt n ≤ x) (h : n < x * x) : 0 < x ∧ 0 ≤ (x + n / x) / 2 ∧ rt n ≤ (x + n / x) / 2 ∧ (x + n / x) / 2 < x := by
  have p : 0 < x := by
    rcases Int.lt_or_eq_of_le h0 with z | z
    · exact z
    · subst z
      simp at h
      omega
  exact ⟨p, newton_nn hn p, newton_ge hn p, newton_lt p h⟩
theorem newton_end {n x : Int} (hn : 0 ≤ n) (hx : rt n ≤ x) (h : ¬ n < x * x) : x = rt n := by
  have := le_rt hn (show x * x ≤ n by omega)
  omega
theorem pow_cast (k : Nat) : ((2 ^ k : Nat) : Int) = (2 : Int) ^ k := by rw [Int.natCast_pow]; rfl
theorem newton_start {n : Int} {b : Nat} (hn : 0 ≤ n) (h : n.natAbs < 2 ^ b) : 0 ≤ (1 : Int) * 2 ^ (((b : Int) + 1) / 2).toNat ∧ rt n ≤ 1 * 2 ^ (((b : Int) + 1) / 2).toNat := by
  have e : (((b : Int) + 1) / 2).toNat = (b + 1) / 2 := by omega
  rw [e, Int.one_mul, ← pow_cast]
  refine ⟨Int.natCast_nonneg _, ?_⟩
  have a := rt_sq hn
  have c : n.natAbs < 2 ^ ((b + 1) / 2) * 2 ^ ((b + 1) / 2) := by
    rw [← Nat.pow_add]
    exact Nat.lt_of_lt_of_le h (Nat.pow_le_pow_right (by decide) (by omega))
  have d : n < ((2 ^ ((b + 1) / 2) : Nat) : Int) * ((2 ^ ((b + 1) / 2) : Nat) : Int) := by
    rw [← Int.natCast_mul]
    omega
  exact Int.le_of_lt (sq_lt_imp (Int.natCast_nonneg _) (by omega))

/-! ### the form -/
/-- negative up to the pair's share of its number, positive beyond -/
def q (t j n : Int) : Int := j * j + t * j * n - n * n
theorem q_none_nat (t : Nat) (ht : 1 ≤ t) : ∀ (n j : Nat), j * j + t * j * n = n * n → n = 0 := by
  intro n
  induction n using Nat.strongRecOn with
  | _ n ih =>
    intro j h
    by_cases hn : n = 0
    · exact hn
    exfalso
    have hj : 0 < j := by
      rcases Nat.eq_zero_or_pos j with z | z
      · subst z
        have h2 : n * n = 0 := by simpa using h.symm
        rcases Nat.mul_eq_zero.mp h2 with z | z <;> omega
      · exact z
    have hlt : j < n := by
      rcases Nat.lt_or_ge j n with z | z
      · exact z
      · exfalso
        have h1 : n * n ≤ j * j := Nat.mul_le_mul z z
        have h2 : 0 < t * j * n := Nat.mul_pos (Nat.mul_pos (by omega) hj) (by omega)
        omega
    have htj : t * j < n := by
      rcases Nat.lt_or_ge (t * j) n with z | z
      · exact z
      · exfalso
        have h1 : n * n ≤ t * j * n := Nat.mul_le_mul_right n z
        have h2 : 0 < j * j := Nat.mul_pos hj hj
        omega
    obtain ⟨i, hi⟩ : ∃ i, n = t * j + i := ⟨n - t * j, by omega⟩
    have := ih j hlt i (by
      subst hi
      grind)
    omega
theorem q_none {t j n : Int} (ht : 1 ≤ t) (hj : 0 ≤ j) (hn : 0 ≤ n) (h : q t j n = 0) : n = 0 := by
  obtain ⟨a, rfl⟩ := Int.eq_ofNat_of_zero_le (show 0 ≤ t by omega)
  obtain ⟨b, rfl⟩ := Int.eq_ofNat_of_zero_le hj
  obtain ⟨c, rfl⟩ := Int.eq_ofNat_of_zero_le hn
  have := q_none_nat a (by omega) c b (by
    unfold q at h
    have e : ((b * b + a * b * c : Nat) : Int) = ((c * c : Nat) : Int) := by
      simp only [Int.natCast_mul, Int.natCast_add]
      omega
    exact Int.ofNat.inj e)
  omega
/-- what is below the share, and what beyond -/
theorem q_cmp {t j n j' n' : Int} (ht : 1 ≤ t) (hj' : 0 ≤ j') (hn : 0 ≤ n) (hn' : 0 < n') (h : q t j n < 0) (h' : 0 < q t j' n') : j * n' < j' * n := by
  rcases Int.lt_or_le (j * n') (j' * n) with z | z
  · exact z
  · exfalso
    have p0 : 0 ≤ j' * n := Int.mul_nonneg hj' hn
    have p1 : (j' * n) * (j' * n) ≤ (j * n') * (j * n') := sq_mono p0 z
    have p2 : (j' * n) * (t * (n * n')) ≤ (j * n') * (t * (n * n')) := Int.mul_le_mul_of_nonneg_right z (Int.mul_nonneg (by omega) (Int.mul_nonneg hn (by omega)))
    have p3 : n' * n' * q t j n < 0 := Int.mul_neg_of_pos_of_neg (Int.mul_pos hn' hn') h
    have p4 : 0 ≤ n * n * q t j' n' := Int.mul_nonneg (Int.mul_nonneg hn hn) (by omega)
    unfold q at p3 p4
    grind

/-! ### the lost pairs -/
/-- the lesser number of the lost pair n -/
def les (t n : Int) : Int := (n * (2 - t) + rt (n * n * (t * t + 4))) / 2
/-- the other number -/
def oth (t n : Int) : Int := les t n + t * n
/-- in which pair a number is -/
def fnd (t k : Int) : Int := (rt (k * k * (t * t + 4)) + k * (t - 2)) / (2 * t) + 1
def plc (t k : Int) : Int := if les t (fnd t k) = k then fnd t k else k - fnd t k + 1

theorem disc_nn (t n : Int) : 0 ≤ n * n * (t * t + 4) := by
  have h : ∀ x : Int, 0 ≤ x * x := fun x => by
    rcases Int.le_total 0 x with z | z
    · exact Int.mul_nonneg z z
    · exact Int.mul_nonneg_of_nonpos_of_nonpos z z
  exact Int.mul_nonneg (h n) (by have := h t; omega)
theorem rt_disc_ge {t n : Int} (ht : 0 ≤ t) (hn : 0 ≤ n) : n * t ≤ rt (n * n * (t * t + 4)) := by
  apply le_rt (disc_nn t n)
  have := Int.mul_nonneg hn hn
  grind
theorem les_spec {t n : Int} (ht : 1 ≤ t) (hn : 1 ≤ n) : 0 ≤ les t n - n ∧ q t (les t n - n) n < 0 ∧ 0 < q t (les t n - n + 1) n := by
  have d := disc_nn t n
  have a := rt_sq d
  have b := rt_lt d
  have c := rt_disc_ge (t := t) (n := n) (by omega) (by omega)
  have hs : 0 ≤ rt (n * n * (t * t + 4)) := rt_nn _
  have e : les t n = (n * (2 - t) + rt (n * n * (t * t + 4))) / 2 := rfl
  generalize rt (n * n * (t * t + 4)) = s at *
  generalize les t n = L at *
  have e1 : n * (2 - t) = 2 * n - n * t := by grind
  rw [e1] at e
  have hnt : 1 * 1 ≤ n * t := Int.mul_le_mul hn ht (by omega) (by omega)
  obtain ⟨j, rfl⟩ : ∃ j, L = n + j := ⟨L - n, by omega⟩
  have u1 : 2 * j + n * t ≤ s := by omega
  have u2 : s + 1 ≤ 2 * (j + 1) + n * t := by omega
  have hj : 0 ≤ j := by omega
  have k1 : (2 * j + n * t) * (2 * j + n * t) ≤ s * s := sq_mono (by omega) u1
  have k2 : (s + 1) * (s + 1) ≤ (2 * (j + 1) + n * t) * (2 * (j + 1) + n * t) := sq_mono (by omega) u2
  have f1 : q t j n ≤ 0 := by unfold q; grind
  have f2 : 0 < q t (j + 1) n := by unfold q; grind
  have f3 : q t j n ≠ 0 := fun z => by
    have := q_none ht hj (by omega) z
    omega
  rw [show n + j - n = j by omega]
  exact ⟨hj, by omega, f2⟩
theorem les_of {t n j : Int} (ht : 1 ≤ t) (hn : 1 ≤ n) (hj : 0 ≤ j) (h1 : q t j n < 0) (h2 : 0 < q t (j + 1) n) : les t n = n + j := by
  obtain ⟨a, b, c⟩ := les_spec ht hn
  have x := q_cmp ht (show 0 ≤ j + 1 by omega) (by omega) (by omega) b h2
  have y := q_cmp ht (show 0 ≤ les t n - n + 1 by omega) (by omega) (by omega) h1 c
  have x' := Int.lt_of_mul_lt_mul_right x (by omega)
  have y' := Int.lt_of_mul_lt_mul_right y (by omega)
  omega
theorem rt0 : rt 0 = 0 := rfl
theorem les0 (t : Int) : les t 0 = 0 := by
  unfold les
  simp [rt0]
theorem oth0 (t : Int) : oth t 0 = 0 := by
  unfold oth
  rw [les0]
  omega
theorem les_ge {t n : Int} (ht : 1 ≤ t) (hn : 0 ≤ n) : n ≤ les t n := by
  rcases Int.lt_or_le 0 n with z | z
  · have := (les_spec ht (show 1 ≤ n by omega)).1
    omega
  · have : n = 0 := by omega
    subst this
    rw [les0]
    omega
theorem les_mono {t n m : Int} (ht : 1 ≤ t) (hn : 0 ≤ n) (h : n < m) : les t n < les t m := by
  obtain ⟨a', b', c'⟩ := les_spec ht (show 1 ≤ m by omega)
  rcases Int.lt_or_le 0 n with z | z
  · obtain ⟨a, b, c⟩ := les_spec ht (show 1 ≤ n by omega)
    have x := q_cmp ht (show 0 ≤ les t m - m + 1 by omega) (by omega) (by omega) b c'
    have y : (les t n - n) * m < (les t m - m + 1) * m := Int.lt_of_lt_of_le x (Int.mul_le_mul_of_nonneg_left (by omega) (by omega))
    have x' := Int.lt_of_mul_lt_mul_right y (by omega)
    omega
  · have : n = 0 := by omega
    subst this
    rw [les0]
    omega
theorem les_inj {t n m : Int} (ht : 1 ≤ t) (hn : 0 ≤ n) (hm : 0 ≤ m) (h : les t n = les t m) : n = m := by
  rcases Int.lt_trichotomy n m with z | z | z
  · have := les_mono ht hn z; omega
  · exact z
  · have := les_mono ht hm z; omega
theorem oth_mono {t n m : Int} (ht : 1 ≤ t) (hn : 0 ≤ n) (h : n < m) : oth t n < oth t m := by
  have a := les_mono ht hn h
  have b := Int.mul_le_mul_of_nonneg_left (show n ≤ m by omega) (show 0 ≤ t by omega)
  unfold oth
  omega
theorem oth_inj {t n m : Int} (ht : 1 ≤ t) (hn : 0 ≤ n) (hm : 0 ≤ m) (h : oth t n = oth t m) : n = m := by
  rcases Int.lt_trichotomy n m with z | z | z
  · have := oth_mono ht hn z; omega
  · exact z
  · have := oth_mono ht hm z; omega
theorem les_le_oth {t n : Int} (ht : 1 ≤ t) (hn : 0 ≤ n) : les t n ≤ oth t n := by
  have := Int.mul_nonneg (show 0 ≤ t by omega) hn
  unfold oth
  omega
theorem les_lt_oth {t n : Int} (ht : 1 ≤ t) (hn : 0 < n) : les t n < oth t n := by
  have := Int.mul_pos (show 0 < t by omega) hn
  unfold oth
  omega
/-- no lesser number is another pair's greater one -/
theorem les_ne_oth {t n m : Int} (ht : 1 ≤ t) (hn : 1 ≤ n) (hm : 1 ≤ m) : les t n ≠ oth t m := by
  intro h
  obtain ⟨a, b, c⟩ := les_spec ht hn
  obtain ⟨a', b', c'⟩ := les_spec ht hm
  unfold oth at h
  have tm : 0 ≤ t * m := Int.mul_nonneg (by omega) (by omega)
  generalize les t n = x at *
  generalize les t m = y at *
  obtain ⟨j, rfl⟩ : ∃ j, x = n + j := ⟨x - n, by omega⟩
  obtain ⟨i, rfl⟩ : ∃ i, y = m + i := ⟨y - m, by omega⟩
  rw [show n + j - n = j by omega] at *
  rw [show m + i - m = i by omega] at *
  -- n' = i + t m : q m n' > 0 > q m (n' + 1)
  have p1 : 0 < q t m (i + t * m) := by unfold q at b' ⊢; grind
  have p2 : q t m (i + t * m + 1) < 0 := by unfold q at c' ⊢; grind
  have hn'0 : 0 < i + t * m := by
    have : 1 * 1 ≤ t * m := Int.mul_le_mul ht hm (by omega) (by omega)
    omega
  rcases Int.lt_or_le (i + t * m) n with z | z
  · have x1 := q_cmp ht (show 0 ≤ j + 1 by omega) (by omega) (by omega) p2 c
    have x2 : m * n < (j + 1) * n := Int.lt_of_lt_of_le x1 (Int.mul_le_mul_of_nonneg_left (by omega) (by omega))
    have x3 := Int.lt_of_mul_lt_mul_right x2 (by omega)
    omega
  · have x1 := q_cmp ht (show 0 ≤ m by omega) (by omega) hn'0 b p1
    have x2 : j * (i + t * m) < m * (i + t * m) := Int.lt_of_lt_of_le x1 (Int.mul_le_mul_of_nonneg_left z (by omega))
    have x3 := Int.lt_of_mul_lt_mul_right x2 (by omega)
    omega
/-- a number is in a pair -/
def inp (t n x : Int) : Prop := les t n = x ∨ oth t n = x
theorem inp_one {t n m x : Int} (ht : 1 ≤ t) (hn : 0 ≤ n) (hm : 0 ≤ m) (hx : 1 ≤ x) (h1 : inp t n x) (h2 : inp t m x) : n = m := by
  have p : ∀ {k}, 0 ≤ k → inp t k x → 1 ≤ k := by
    intro k hk h
    rcases Int.lt_or_le 0 k with z | z
    · omega
    · have : k = 0 := by omega
      subst this
      unfold inp at h
      rw [les0, oth0] at h
      omega
  have pn := p hn h1
  have pm := p hm h2
  rcases h1 with h1 | h1 <;> rcases h2 with h2 | h2
  · exact les_inj ht hn hm (by omega)
  · exact absurd (h1.trans h2.symm) (les_ne_oth ht pn pm)
  · exact absurd (h2.trans h1.symm) (les_ne_oth ht pm pn)
  · exact oth_inj ht hn hm (by omega)
theorem fnd_spec {t k : Int} (ht : 1 ≤ t) (hk : 1 ≤ k) : 1 ≤ fnd t k ∧ 0 < q t (k - (fnd t k - 1)) (fnd t k - 1) ∧ q t (k - fnd t k) (fnd t k) < 0 := by
  have d := disc_nn t k
  have a := rt_sq d
  have b := rt_lt d
  have c := rt_disc_ge (t := t) (n := k) (by omega) (by omega)
  have hs : 0 ≤ rt (k * k * (t * t + 4)) := rt_nn _
  have e : fnd t k = (rt (k * k * (t * t + 4)) + k * (t - 2)) / (2 * t) + 1 := rfl
  generalize rt (k * k * (t * t + 4)) = s at *
  generalize fnd t k = F at *
  have ekt : k * (t - 2) = k * t - 2 * k := by grind
  have hkt : k * 1 ≤ k * t := Int.mul_le_mul_of_nonneg_left ht (by omega)
  have h0 : 0 ≤ s + k * (t - 2) := by omega
  have hpos : (0 : Int) < 2 * t := by omega
  have e0 : F - 1 = (s + k * (t - 2)) / (2 * t) := by omega
  have hF : 0 ≤ F - 1 := by
    rw [e0]
    exact Int.ediv_nonneg h0 (by omega)
  have l1 : (F - 1) * (2 * t) ≤ s + k * (t - 2) := by
    rw [e0]
    exact Int.ediv_mul_le _ (by omega)
  have l2 : s + k * (t - 2) < F * (2 * t) := by
    have := Int.lt_ediv_add_one_mul_self (s + k * (t - 2)) hpos
    rw [← e0] at this
    rwa [show F - 1 + 1 = F by omega] at this
  obtain ⟨n, rfl⟩ : ∃ n, F = n + 1 := ⟨F - 1, by omega⟩
  rw [show n + 1 - 1 = n by omega] at *
  -- v = 2 t n - (t - 2) k is within
  have v1 : 2 * t * n - (t - 2) * k ≤ s := by grind
  have tn : 0 ≤ t * n := Int.mul_nonneg (by omega) hF
  have v2 : -(k * t) ≤ 2 * t * n - (t - 2) * k := by grind
  have v3 : s + 1 ≤ 2 * t * (n + 1) - (t - 2) * k := by grind
  have hkk : 0 < k * k := Int.mul_pos (by omega) (by omega)
  have w1 : (2 * t * n - (t - 2) * k) * (2 * t * n - (t - 2) * k) ≤ k * k * (t * t + 4) := by
    rcases Int.le_total 0 (2 * t * n - (t - 2) * k) with z | z
    · have := sq_mono z v1
      omega
    · have := sq_mono (a := -(2 * t * n - (t - 2) * k)) (b := k * t) (by omega) (by omega)
      grind
  have w2 : (s + 1) * (s + 1) ≤ (2 * t * (n + 1) - (t - 2) * k) * (2 * t * (n + 1) - (t - 2) * k) := sq_mono (by omega) v3
  have i1 : 0 ≤ t * q t (k - n) n := by unfold q; grind
  have i2 : t * q t (k - (n + 1)) (n + 1) < 0 := by unfold q; grind
  have j1 : 0 ≤ q t (k - n) n := by
    rcases Int.lt_or_le (q t (k - n) n) 0 with z | z
    · have := Int.mul_neg_of_pos_of_neg (show 0 < t by omega) z
      omega
    · exact z
  have j2 : q t (k - (n + 1)) (n + 1) < 0 := by
    rcases Int.lt_or_le (q t (k - (n + 1)) (n + 1)) 0 with z | z
    · exact z
    · have := Int.mul_nonneg (show 0 ≤ t by omega) z
      omega
  have hm : 0 ≤ k - n := by
    rcases Int.lt_or_le k n with z | z
    · exfalso
      have y1 : t * (n * (k - n)) ≤ 0 := Int.mul_nonpos_of_nonneg_of_nonpos (by omega) (Int.mul_nonpos_of_nonneg_of_nonpos hF (by omega))
      have y2 : k * k < k * n := Int.mul_lt_mul_of_pos_left z (by omega)
      unfold q at j1
      grind
    · omega
  refine ⟨by omega, ?_, j2⟩
  rcases Int.lt_or_eq_of_le j1 with z | z
  · exact z
  · exfalso
    have n0 := q_none ht hm hF z.symm
    subst n0
    unfold q at z
    grind
/-- each number above 0 is in the pair that is told -/
theorem plc_ok {t k : Int} (ht : 1 ≤ t) (hk : 1 ≤ k) : 1 ≤ plc t k ∧ inp t (plc t k) k := by
  obtain ⟨a, b, c⟩ := fnd_spec ht hk
  unfold plc
  by_cases h : les t (fnd t k) = k
  · rw [if_pos h]
    exact ⟨a, .inl h⟩
  · rw [if_neg h]
    obtain ⟨a1, b1, c1⟩ := les_spec ht a
    generalize fnd t k = F at *
    obtain ⟨n, rfl⟩ : ∃ n, F = n + 1 := ⟨F - 1, by omega⟩
    rw [show n + 1 - 1 = n by omega] at *
    -- k < F α, so the lesser number of F is k or more
    have hge : k ≤ les t (n + 1) := by
      rcases Int.lt_or_le (les t (n + 1)) k with z | z
      · exfalso
        -- les - F + 1 ≤ k - F, yet the form is positive there
        have y := q_cmp ht (show 0 ≤ les t (n + 1) - (n + 1) + 1 by omega) (by omega) (by omega) c c1
        have y' := Int.lt_of_mul_lt_mul_right y (by omega)
        omega
      · exact z
    -- m = k - n
    have p2 : q t (k - n) (n + 1) < 0 := by
      rcases Int.lt_or_le (q t (k - n) (n + 1)) 0 with z | z
      · exact z
      · exfalso
        have hkn : 0 ≤ k - n := by
          rcases Int.lt_or_le k n with z | z
          · exfalso
            have y1 : t * (n * (k - n)) ≤ 0 := Int.mul_nonpos_of_nonneg_of_nonpos (by omega) (Int.mul_nonpos_of_nonneg_of_nonpos (by omega) (by omega))
            have y2 : k * k < k * n := Int.mul_lt_mul_of_pos_left z (by omega)
            have y3 : 0 < k * k := Int.mul_pos (by omega) (by omega)
            unfold q at b
            grind
          · omega
        rcases Int.lt_or_eq_of_le z with z | z
        · have y := q_cmp ht hkn (by omega) (by omega) b1 z
          have y' := Int.lt_of_mul_lt_mul_right y (by omega)
          omega
        · have := q_none ht hkn (by omega) z.symm
          omega
    have hm : 1 ≤ k - n := by
      rcases Int.lt_or_le n k with z | z
      · omega
      · exfalso
        have y1 : t * (n * (k - n)) ≤ 0 := Int.mul_nonpos_of_nonneg_of_nonpos (by omega) (Int.mul_nonpos_of_nonneg_of_nonpos (by omega) (by omega))
        have y2 : k * k ≤ k * n := Int.mul_le_mul_of_nonneg_left z (by omega)
        have y3 : 0 < k * k := Int.mul_pos (by omega) (by omega)
        unfold q at b
        grind
    obtain ⟨m, rfl⟩ : ∃ m, k = m + n := ⟨k - n, by omega⟩
    rw [show m + n - n = m by omega] at *
    have htm : t * m ≤ n := by
      rcases Int.lt_or_le n (t * m) with z | z
      · exfalso
        have y1 : (n + 1) * (n + 1) ≤ t * m * (n + 1) := Int.mul_le_mul_of_nonneg_right (by omega) (by omega)
        have y2 : 0 < m * m := Int.mul_pos (by omega) (by omega)
        unfold q at p2
        omega
      · exact z
    have r1 : q t (n - t * m) m < 0 := by unfold q at b ⊢; grind
    have r2 : 0 < q t (n - t * m + 1) m := by unfold q at p2 ⊢; grind
    have e := les_of ht hm (show 0 ≤ n - t * m by omega) r1 r2
    refine ⟨by omega, .inr ?_⟩
    rw [show m + n - (n + 1) + 1 = m by omega]
    unfold oth
    omega
theorem plc_eq {t n x : Int} (ht : 1 ≤ t) (hn : 0 ≤ n) (hx : 1 ≤ x) (h : inp t n x) : plc t x = n := by
  obtain ⟨a, b⟩ := plc_ok ht hx
  exact inp_one ht (by omega) hn hx b h
theorem les_le {t n : Int} (ht : 1 ≤ t) (hn : 0 ≤ n) : les t n ≤ 2 * n := by
  rcases Int.lt_or_le 0 n with z | z
  · obtain ⟨a, b, c⟩ := les_spec ht (show 1 ≤ n by omega)
    have p : 0 < q t n n := by
      have := Int.mul_pos (Int.mul_pos (show 0 < t by omega) z) z
      unfold q
      omega
    have x := q_cmp ht (show 0 ≤ n by omega) (by omega) z b p
    have y := Int.lt_of_mul_lt_mul_right x (by omega)
    omega
  · have : n = 0 := by omega
    subst this
    rw [les0]
    omega
theorem les_nn {t n : Int} (ht : 1 ≤ t) (hn : 0 ≤ n) : 0 ≤ les t n := by
  have := les_ge ht hn
  omega
theorem oth_nn {t n : Int} (ht : 1 ≤ t) (hn : 0 ≤ n) : 0 ≤ oth t n := by
  have := les_nn ht hn
  have := les_le_oth ht hn
  omega
theorem fnd_le {t k : Int} (ht : 1 ≤ t) (hk : 1 ≤ k) : fnd t k ≤ k := by
  obtain ⟨a, b, c⟩ := fnd_spec ht hk
  generalize fnd t k = F at *
  rcases Int.lt_or_le k F with z | z
  · exfalso
    obtain ⟨n, rfl⟩ : ∃ n, F = n + 1 := ⟨F - 1, by omega⟩
    rw [show n + 1 - 1 = n by omega] at *
    have y1 : t * (n * (k - n)) ≤ 0 := Int.mul_nonpos_of_nonneg_of_nonpos (by omega) (Int.mul_nonpos_of_nonneg_of_nonpos (by omega) (by omega))
    have y2 : k * k ≤ k * n := Int.mul_le_mul_of_nonneg_left (by omega) (by omega)
    have y3 : 0 < k * k := Int.mul_pos (by omega) (by omega)
    unfold q at b
    grind
  · exact z
theorem plc_le {t k : Int} (ht : 1 ≤ t) (hk : 1 ≤ k) : plc t k ≤ k := by
  obtain ⟨a, b⟩ := plc_ok ht hk
  have c := les_ge ht (show 0 ≤ plc t k by omega)
  have d := les_le_oth ht (show 0 ≤ plc t k by omega)
  rcases b with b | b <;> omega
end TH

/-! Two heaps: takings, lost heaps, and the taking that is told. -/
namespace TH
/-- a taking of the heaps x, y -/
def Legal (t x y i j : Int) : Prop := 0 ≤ i ∧ 0 ≤ j ∧ ¬ (i = 0 ∧ j = 0) ∧ i ≤ x ∧ j ≤ y ∧ (i = 0 ∨ j = 0 ∨ (i - j < t ∧ j - i < t))
instance (t x y i j : Int) : Decidable (Legal t x y i j) := by unfold Legal; exact inferInstance
/-- the heaps x, y are a lost pair: as the program asks -/
def IsLost (t x y : Int) : Prop := (max x y - min x y) % t = 0 ∧ les t ((max x y - min x y) / t) = min x y
instance (t x y : Int) : Decidable (IsLost t x y) := by unfold IsLost; exact inferInstance
theorem lost_swap {t x y : Int} : IsLost t x y ↔ IsLost t y x := by
  unfold IsLost
  rw [Int.max_comm, Int.min_comm]
theorem legal_swap {t x y i j : Int} : Legal t x y i j ↔ Legal t y x j i := by
  unfold Legal
  omega
theorem div_mul_of {a t : Int} (h : a % t = 0) : t * (a / t) = a := Int.mul_ediv_cancel' (Int.dvd_of_emod_eq_zero h)
theorem lost_oth {t x y : Int} (h : IsLost t x y) : oth t ((max x y - min x y) / t) = max x y := by
  have e := div_mul_of h.1
  have e2 := h.2
  unfold oth
  omega
theorem lost_num {t x y : Int} (ht : 1 ≤ t) : 0 ≤ (max x y - min x y) / t := Int.ediv_nonneg (by omega) (by omega)
theorem lost_of {t n : Int} (ht : 1 ≤ t) (hn : 0 ≤ n) : IsLost t (les t n) (oth t n) := by
  have a := les_le_oth ht hn
  have e1 : max (les t n) (oth t n) = oth t n := by omega
  have e2 : min (les t n) (oth t n) = les t n := by omega
  unfold IsLost
  rw [e1, e2]
  have e3 : oth t n - les t n = t * n := by unfold oth; omega
  rw [e3, Int.mul_emod_right, Int.mul_ediv_cancel_left n (show t ≠ 0 by omega)]
  exact ⟨rfl, rfl⟩
/-- lost heaps: both numbers are in one pair, and of two numbers above 0 just the two of it -/
theorem lost_in {t x y : Int} (h : IsLost t x y) : inp t ((max x y - min x y) / t) x ∧ inp t ((max x y - min x y) / t) y ∧ x + y = les t ((max x y - min x y) / t) + oth t ((max x y - min x y) / t) := by
  have a := h.2
  have b := lost_oth h
  unfold inp
  omega
theorem lost_same {t x y x' y' : Int} (ht : 1 ≤ t) (h : IsLost t x y) (h' : IsLost t x' y') (e : max x y - min x y = max x' y' - min x' y') : x + y = x' + y' := by
  have a := (lost_in h).2.2
  have b := (lost_in h').2.2
  rw [e] at a
  omega
/-- from lost heaps no taking leaves lost ones -/
theorem no_lost {t x y i j : Int} (ht : 1 ≤ t) (h : IsLost t x y) (l : Legal t x y i j) (h' : IsLost t (x - i) (y - j)) : False := by
  obtain ⟨i0, j0, ij, ix, jy, d⟩ := l
  obtain ⟨p1, p2, p3⟩ := lost_in h
  obtain ⟨q1, q2, q3⟩ := lost_in h'
  have n1 := lost_num (x := x) (y := y) ht
  have n2 := lost_num (x := x - i) (y := y - j) ht
  have hA := h.2
  have hB := lost_oth h
  have a1 := div_mul_of h.1
  have a2 := div_mul_of h'.1
  generalize (max x y - min x y) / t = n at *
  generalize (max (x - i) (y - j) - min (x - i) (y - j)) / t = m at *
  -- one number above 0 in both pairs: the same pair, yet the sum is less
  have one : ∀ z : Int, 1 ≤ z → inp t n z → inp t m z → False := fun z hz u v => by
    have e := inp_one ht n1 n2 hz u v
    subst e
    omega
  -- nothing in a heap: the pair is 0, 0
  have nil : min x y = 0 → max x y = 0 := fun e => by
    have g := les_ge ht n1
    have e3 : n = 0 := by omega
    rw [e3, oth0] at hB
    omega
  by_cases zi : i = 0
  · rw [zi, Int.sub_zero] at q1
    rcases Int.lt_or_eq_of_le (show 0 ≤ x by omega) with z | z
    · exact one x (by omega) p1 q1
    · have := nil (by omega)
      omega
  · by_cases zj : j = 0
    · rw [zj, Int.sub_zero] at q2
      rcases Int.lt_or_eq_of_le (show 0 ≤ y by omega) with z | z
      · exact one y (by omega) p2 q2
      · have := nil (by omega)
        omega
    · -- of both: the heaps are as far apart as before
      have d' : i - j < t ∧ j - i < t := by omega
      have key : n = m := by
        rcases Int.lt_trichotomy n m with z | z | z
        · exfalso
          have b := Int.mul_le_mul_of_nonneg_left (show n + 1 ≤ m by omega) (show 0 ≤ t by omega)
          rw [Int.mul_add] at b
          have c := Int.mul_nonneg (show 0 ≤ t by omega) n1
          omega
        · exact z
        · exfalso
          have b := Int.mul_le_mul_of_nonneg_left (show m + 1 ≤ n by omega) (show 0 ≤ t by omega)
          rw [Int.mul_add] at b
          have c := Int.mul_nonneg (show 0 ≤ t by omega) n2
          omega
      subst key
      omega
/-- the taking that is told of the lesser heap and the greater one -/
def tkg (t lo hi : Int) : Int × Int :=
  if lo = 0 then (0, hi)
  else if les t (plc t lo) + oth t (plc t lo) - lo < hi then (0, hi - (les t (plc t lo) + oth t (plc t lo) - lo))
  else (lo - les t ((hi - lo) / t), hi - les t ((hi - lo) / t) - t * ((hi - lo) / t))
theorem tkg_ok {t lo hi : Int} (ht : 1 ≤ t) (h0 : 0 ≤ lo) (h1 : lo ≤ hi) (h : ¬ IsLost t lo hi) : Legal t lo hi (tkg t lo hi).1 (tkg t lo hi).2 ∧ IsLost t (lo - (tkg t lo hi).1) (hi - (tkg t lo hi).2) := by
  unfold tkg
  by_cases z : lo = 0
  · rw [if_pos z]
    subst z
    have hh : hi ≠ 0 := fun e => by
      subst e
      exact h (by
        have := lost_of ht (show (0 : Int) ≤ 0 by omega)
        rwa [les0, oth0] at this)
    refine ⟨?_, ?_⟩
    · show Legal t 0 hi 0 hi
      unfold Legal
      omega
    · show IsLost t (0 - 0) (hi - hi)
      have := lost_of ht (show (0 : Int) ≤ 0 by omega)
      rw [les0, oth0] at this
      rw [Int.sub_self, Int.sub_self]
      exact this
  · rw [if_neg z]
    obtain ⟨p1, p2⟩ := plc_ok ht (show 1 ≤ lo by omega)
    have p3 := les_le_oth ht (show 0 ≤ plc t lo by omega)
    have p4 := lost_of ht (show 0 ≤ plc t lo by omega)
    have p5 := les_ge ht (show 0 ≤ plc t lo by omega)
    generalize plc t lo = n at *
    by_cases c : les t n + oth t n - lo < hi
    · rw [if_pos c]
      refine ⟨?_, ?_⟩
      · show Legal t lo hi 0 (hi - (les t n + oth t n - lo))
        unfold Legal
        unfold inp at p2
        omega
      · show IsLost t (lo - 0) (hi - (hi - (les t n + oth t n - lo)))
        rcases p2 with p2 | p2
        · rw [show lo - 0 = les t n by omega, show hi - (hi - (les t n + oth t n - lo)) = oth t n by omega]
          exact p4
        · rw [show lo - 0 = oth t n by omega, show hi - (hi - (les t n + oth t n - lo)) = les t n by omega]
          exact lost_swap.mp p4
    · rw [if_neg c]
      -- the lesser number is the pair's lesser one, the greater heap less than its partner
      have p6 : les t n = lo := by
        rcases p2 with p2 | p2
        · exact p2
        · exfalso
          have := les_lt_oth ht (show 0 < n by omega)
          omega
      have hlt : hi < oth t n := by
        rcases Int.lt_or_eq_of_le (show hi ≤ oth t n by omega) with z2 | z2
        · exact z2
        · exfalso
          rw [← p6, z2] at h
          exact h p4
      have m0 : 0 ≤ (hi - lo) / t := Int.ediv_nonneg (by omega) (by omega)
      have m1 : t * ((hi - lo) / t) ≤ hi - lo := by
        rw [Int.mul_comm]
        exact Int.ediv_mul_le _ (by omega)
      have m2 : hi - lo < t * ((hi - lo) / t) + t := by
        have := Int.lt_ediv_add_one_mul_self (hi - lo) (show 0 < t by omega)
        rw [Int.mul_comm, Int.mul_add, Int.mul_one] at this
        exact this
      have eo : oth t n = les t n + t * n := rfl
      generalize (hi - lo) / t = m at *
      have mn : m < n := by
        rcases Int.lt_or_le m n with z2 | z2
        · exact z2
        · exfalso
          have := Int.mul_le_mul_of_nonneg_left z2 (show 0 ≤ t by omega)
          omega
      have q1 := les_mono ht m0 mn
      have q2 := les_nn ht m0
      refine ⟨?_, ?_⟩
      · show Legal t lo hi (lo - les t m) (hi - les t m - t * m)
        have := Int.mul_nonneg (show 0 ≤ t by omega) m0
        unfold Legal
        omega
      · show IsLost t (lo - (lo - les t m)) (hi - (hi - les t m - t * m))
        rw [show lo - (lo - les t m) = les t m by omega, show hi - (hi - les t m - t * m) = oth t m by unfold oth; omega]
        exact lost_of ht m0
theorem tkg_bd {t lo hi : Int} (ht : 1 ≤ t) (h0 : 0 ≤ lo) (h1 : lo ≤ hi) : -(2 * hi) ≤ (tkg t lo hi).1 ∧ (tkg t lo hi).1 ≤ hi ∧ -(2 * hi) ≤ (tkg t lo hi).2 ∧ (tkg t lo hi).2 ≤ hi := by
  unfold tkg
  by_cases z : lo = 0
  · rw [if_pos z]
    show -(2 * hi) ≤ 0 ∧ 0 ≤ hi ∧ -(2 * hi) ≤ hi ∧ hi ≤ hi
    omega
  · rw [if_neg z]
    obtain ⟨p1, p2⟩ := plc_ok ht (show 1 ≤ lo by omega)
    have p3 := les_nn ht (show 0 ≤ plc t lo by omega)
    have p4 := oth_nn ht (show 0 ≤ plc t lo by omega)
    generalize plc t lo = n at *
    by_cases c : les t n + oth t n - lo < hi
    · rw [if_pos c]
      show -(2 * hi) ≤ 0 ∧ 0 ≤ hi ∧ -(2 * hi) ≤ hi - (les t n + oth t n - lo) ∧ hi - (les t n + oth t n - lo) ≤ hi
      unfold inp at p2
      omega
    · rw [if_neg c]
      have m0 : 0 ≤ (hi - lo) / t := Int.ediv_nonneg (by omega) (by omega)
      have m1 : t * ((hi - lo) / t) ≤ hi - lo := by
        rw [Int.mul_comm]
        exact Int.ediv_mul_le _ (by omega)
      have m3 : (hi - lo) / t ≤ hi - lo := by
        have := Int.mul_le_mul_of_nonneg_right ht m0
        omega
      have m4 := les_le ht m0
      have m5 := les_nn ht m0
      have m6 := Int.mul_nonneg (show 0 ≤ t by omega) m0
      show -(2 * hi) ≤ lo - les t ((hi - lo) / t) ∧ lo - les t ((hi - lo) / t) ≤ hi ∧ -(2 * hi) ≤ hi - les t ((hi - lo) / t) - t * ((hi - lo) / t) ∧ hi - les t ((hi - lo) / t) - t * ((hi - lo) / t) ≤ hi
      omega
/-- .. of the heaps as they stand -/
def tak (t x y : Int) : Int × Int := if x ≤ y then tkg t x y else ((tkg t y x).2, (tkg t y x).1)
theorem tak_ok {t x y : Int} (ht : 1 ≤ t) (hx : 0 ≤ x) (hy : 0 ≤ y) (h : ¬ IsLost t x y) : Legal t x y (tak t x y).1 (tak t x y).2 ∧ IsLost t (x - (tak t x y).1) (y - (tak t x y).2) := by
  unfold tak
  by_cases c : x ≤ y
  · rw [if_pos c]
    exact tkg_ok ht hx c h
  · rw [if_neg c]
    obtain ⟨a, b⟩ := tkg_ok ht hy (show y ≤ x by omega) (fun z => h (lost_swap.mp z))
    exact ⟨legal_swap.mp a, lost_swap.mp b⟩
theorem tak_bd {t x y : Int} (ht : 1 ≤ t) (hx : 0 ≤ x) (hy : 0 ≤ y) : -(2 * max x y) ≤ (tak t x y).1 ∧ (tak t x y).1 ≤ max x y ∧ -(2 * max x y) ≤ (tak t x y).2 ∧ (tak t x y).2 ≤ max x y := by
  unfold tak
  by_cases c : x ≤ y
  · rw [if_pos c]
    have := tkg_bd ht hx c
    omega
  · rw [if_neg c]
    have := tkg_bd ht hy (show y ≤ x by omega)
    show -(2 * max x y) ≤ (tkg t y x).2 ∧ (tkg t y x).2 ≤ max x y ∧ -(2 * max x y) ≤ (tkg t y x).1 ∧ (tkg t y x).1 ≤ max x y
    omega
/-- by all takings: lost is just what no taking leads from to lost heaps -/
theorem lost_iff {t x y : Int} (ht : 1 ≤ t) (hx : 0 ≤ x) (hy : 0 ≤ y) : IsLost t x y ↔ ∀ i j, Legal t x y i j → ¬ IsLost t (x - i) (y - j) := by
  constructor
  · intro h i j l h'
    exact no_lost ht h l h'
  · intro h
    by_cases c : IsLost t x y
    · exact c
    · obtain ⟨a, b⟩ := tak_ok ht hx hy c
      exact absurd b (h _ _ a)
theorem lost_apart {t x y : Int} (h : IsLost t x y) : (max x y - min x y) / t * t = max x y - min x y := by
  rw [Int.mul_comm]
  exact div_mul_of h.1
end TH

/-! ### rules of our own over the hand layer -/
namespace TH
open PySem PySem.Spec PyProof.Rows L2

/-! #### sizes -/
structure Bd (k : Nat) (i : Int) : Prop where
  out : i.natAbs < 2 ^ k
theorem bd_mono {a b : Nat} {i : Int} (h : Bd a i) (hab : a ≤ b) : Bd b i := ⟨Nat.lt_of_lt_of_le h.out (Nat.pow_le_pow_right (by decide) hab)⟩
theorem bd_mul {a b : Nat} {i j : Int} (ha : Bd a i) (hb : Bd b j) : Bd (a + b) (i * j) := ⟨wide_lt ha.out hb.out⟩
theorem bd_add {a b : Nat} {i j : Int} (ha : Bd a i) (hb : Bd b j) : Bd (max a b + 1) (i + j) := by
  have h1 := (bd_mono ha (Nat.le_max_left a b)).out
  have h2 := (bd_mono hb (Nat.le_max_right a b)).out
  have e : 2 ^ (max a b + 1) = 2 ^ max a b + 2 ^ max a b := by omega
  have h3 := Int.natAbs_add_le i j
  exact ⟨by omega⟩
theorem bd_neg {a : Nat} {i : Int} (ha : Bd a i) : Bd a (-i) := ⟨by
  rw [Int.natAbs_neg]
  exact ha.out⟩
theorem bd_sub {a b : Nat} {i j : Int} (ha : Bd a i) (hb : Bd b j) : Bd (max a b + 1) (i - j) := by
  have h := bd_add ha (bd_neg hb)
  rwa [← Int.sub_eq_add_neg] at h
theorem bd_div {a : Nat} {i j : Int} (ha : Bd a i) (hj : 0 < j) : Bd a (i / j) := by
  have h : (i / j).natAbs ≤ i.natAbs := by
    obtain ⟨k, rfl⟩ := Int.eq_ofNat_of_zero_le (Int.le_of_lt hj)
    exact Int.natAbs_ediv_le_natAbs i k
  exact ⟨Nat.lt_of_le_of_lt h ha.out⟩
theorem bd_mod {b : Nat} {i j : Int} (hb : Bd b j) (hj : 0 < j) : Bd b (i % j) := by
  have h1 := Int.emod_nonneg i (show j ≠ 0 by omega)
  have h2 := Int.emod_lt_of_pos i hj
  have hb' := hb.out
  exact ⟨by omega⟩
theorem bd_le {a : Nat} {i j : Int} (ha : Bd a j) (h0 : 0 ≤ i) (h : i ≤ j) : Bd a i := ⟨wide_le h0 h ha.out⟩
theorem bd_lt {a : Nat} {i : Int} (h0 : 0 ≤ i) (h : i < 2 ^ a) : Bd a i := by
  have e := pow_cast a
  exact ⟨by omega⟩
theorem bd_nn {a : Nat} {i : Int} (h : Bd a i) : i < 2 ^ a := by
  have e := pow_cast a
  have h' := h.out
  omega
theorem bd_max2 {a : Nat} {i j : Int} (ha : Bd a i) (hb : Bd a j) : Bd a (max i j) := by
  rcases Int.le_total i j with h | h
  · rw [Int.max_eq_right h]; exact hb
  · rw [Int.max_eq_left h]; exact ha
theorem bd_max {i j : Int} (ha : Bd 600 i) (hb : Bd 600 j) : Bd 602 (max i j) := bd_mono (bd_max2 ha hb) (by decide)
theorem bd_lit {i : Int} (h : i.natAbs < 2 ^ 140 := by decide) : Bd 140 i := ⟨h⟩
theorem bd_one : Bd 1 1 := ⟨by decide⟩
theorem bits_lt (i : Int) : i.natAbs < 2 ^ Builtin.Int.intBits i := by
  unfold Builtin.Int.intBits
  split
  · rename_i z
    have : i = 0 := by simpa using z
    subst this
    decide
  · exact Nat.lt_log2_self
theorem bd_bits {i : Int} {k : Nat} (h : Builtin.Int.intBits i ≤ k) : Bd k i := bd_mono (a := Builtin.Int.intBits i) ⟨bits_lt i⟩ h
/-- a word that the reading does not open -/
@[irreducible] def Opq (p : Prop) : Prop := p
theorem opq_mk {p : Prop} (h : p) : Opq p := by unfold Opq; exact h
theorem opq_out {p : Prop} (h : Opq p) : p := by unfold Opq at h; exact h
/-! #### readings that ask more of what follows -/
section
variable {X : Cx}
theorem PE.imp {e : Expr} {t t' : TE} (h : PE X e t) (w : ∀ σ H Q, t' σ H Q → t σ H Q) : PE X e t' := ⟨fun pins s σ H Q I hq => h.run pins s σ H Q I (w σ H Q hq)⟩
theorem PA.mon {es : List Expr} {t : TA} (h : PA X es t) : PA X es (fun σ H R => ∃ R0 : List V → Hp → Prop, (∀ xs H1, R0 xs H1 → R xs H1) ∧ t σ H R0) :=
  ⟨fun pos pins s σ H Q I ⟨R0, m, hq⟩ => thn (h.run pos pins s σ H _ I hq) fun us s1 ⟨xs, H1, I1, r1, q1⟩ => ⟨xs, H1, I1, r1, m _ _ q1⟩⟩
/-- one expression, read either way -/
theorem pe_or2 {e : Expr} {t u : TE} (h1 : PE X e t) (h2 : PE X e u) : PE X e (fun σ H Q => t σ H Q ∨ u σ H Q) := ⟨fun pins s σ H Q I h => h.elim (h1.run pins s σ H Q I) (h2.run pins s σ H Q I)⟩
theorem Same.new {H : Hp} {p : Addr} {o : HO} (h : H p = none) : Same H (upd H p o) := fun a u e => by
  rw [upd_ne (ne_of_none e h)]
  exact e
/-- a new tuple, a new list: the heap behind it by what is known of it -/
def tTupA (t : TA) : TE := fun σ H Q => t σ H fun xs H1 => xs.length ≤ 64 ∧ ∀ p H2, H1 p = none → Same H1 H2 → H2 p = some (.tup xs) → Q (.ref p) H2
def tLstA (t : TA) : TE := fun σ H Q => t σ H fun xs H1 => xs.length ≤ 64 ∧ ∀ p H2, H1 p = none → Same H1 H2 → H2 p = some (.lst xs) → Q (.ref p) H2
theorem le64 {n : Nat} (h : Nat.ble n 64 = true) : n ≤ 64 := Nat.le_of_ble_eq_true h
theorem le_line {n : Nat} (h : n ≤ 64) : n ≤ sizeLine := Nat.le_trans h (by decide)
theorem pe_tupA {es : List Expr} {t : TA} {pos x1} (h : PA X es t) : PE X (.Tuple es x1 pos) (tTupA t) :=
  PE.imp (pe_tup (PA.mon h)) fun σ H Q hq => ⟨_, fun xs H1 z => ⟨le_line z.1, fun p hp => z.2 p _ hp (Same.new hp) upd_same⟩, hq⟩
theorem pe_lstA {es : List Expr} {t : TA} {pos} (h : PA X es t) : PE X (.List es pos) (tLstA t) :=
  PE.imp (pe_lst (PA.mon h)) fun σ H Q hq => ⟨_, fun xs H1 z => ⟨le_line z.1, fun p hp => z.2 p _ hp (Same.new hp) upd_same⟩, hq⟩

theorem OpR.imp {f : Value → Value → Sem Value} {r r' : R2} (h : OpR X f r) (w : ∀ x y H Q, r' x y H Q → r x y H Q) : OpR X f r' := fun pins s σ H x y v u Q I rx ry hq => h pins s σ H x y v u Q I rx ry (w _ _ _ _ hq)
theorem CallR.imp {f : Value} {r r' : List V → Hp → VK → Prop} (h : CallR X f r) (w : ∀ xs H Q, r' xs H Q → r xs H Q) : CallR X f r' := fun pins s σ H xs us Q I rx hq => h pins s σ H xs us Q I rx (w _ _ _ hq)

/-! #### operators -/
structure CM (i j : Int) : Prop where
  out : ∃ a b, Bd a i ∧ Bd b j ∧ a + b ≤ 134217728
structure CD (i j : Int) : Prop where
  pos : 0 < j
  bd : Bd 9000 j
theorem cm_ok {i j : Int} {a b : Nat} (ha : Bd a i) (hb : Bd b j) (h : Nat.ble (a + b) 134217728 = true) : CM i j := ⟨⟨a, b, ha, hb, Nat.le_of_ble_eq_true h⟩⟩
theorem cd_ok {i j : Int} {b : Nat} (h0 : 0 < j) (hb : Bd b j) (h : Nat.ble b 9000 = true) : CD i j := ⟨h0, bd_mono hb (Nat.le_of_ble_eq_true h)⟩
theorem bd_mono' {a b : Nat} {i : Int} (h : Bd a i) (hab : Nat.ble a b = true) : Bd b i := bd_mono h (Nat.le_of_ble_eq_true hab)
theorem bd_le64 {α : Type} {xs : List α} (h : Nat.ble xs.length 64 = true) : xs.length ≤ 64 := Nat.le_of_ble_eq_true h
theorem oMul : OpR X (binaryOp .Mult) (rI CM fun i j => .int (i * j)) := OpR.imp op_mulX fun x y H Q ⟨i, j, h1, h2, ⟨a, b, ha, hb, hab⟩, q⟩ => ⟨i, j, h1, h2, mulx_ok ha.out hb.out hab, q⟩
theorem oDiv : OpR X (binaryOp .FloorDiv) (rI CD fun i j => .int (i / j)) := OpR.imp op_fdivW fun x y H Q ⟨i, j, h1, h2, ⟨a, b⟩, q⟩ => ⟨i, j, h1, h2, wide_div a b.out (by decide) (by decide), q⟩
theorem oMod : OpR X (binaryOp .Mod) (rI (fun _ j => 0 < j) fun i j => .int (i % j)) := op_mod
theorem dI (i j : Int) : decide (V.int i = V.int j) = decide (i = j) := by
  by_cases e : i = j
  · subst e; simp
  · rw [decide_eq_false e, decide_eq_false fun z => e (V.int.inj z)]
theorem dB (i j : Bool) : decide (V.bl i = V.bl j) = decide (i = j) := by
  cases i <;> cases j <;> rfl
theorem oEq : OpR X (compareOp .Eq) (rI0 fun i j => .bl (decide (i = j))) := OpR.imp op_eq fun x y H Q ⟨i, j, h1, h2, q⟩ => by
  subst h1 h2
  refine ⟨rfl, ?_⟩
  rw [dI]
  exact q
theorem oNe : OpR X (compareOp .NotEq) (rI0 fun i j => .bl (!decide (i = j))) := OpR.imp op_ne fun x y H Q ⟨i, j, h1, h2, q⟩ => by
  subst h1 h2
  refine ⟨rfl, ?_⟩
  rw [dI]
  exact q
def rBb (g : Bool → Bool → Bool) : R2 := fun x y H Q => ∃ i j, x = .bl i ∧ y = .bl j ∧ Q (.bl (g i j)) H
theorem oEqB : OpR X (compareOp .Eq) (rBb fun i j => decide (i = j)) := OpR.imp op_eq fun x y H Q ⟨i, j, h1, h2, q⟩ => by
  subst h1 h2
  refine ⟨rfl, ?_⟩
  rw [dB]
  exact q
theorem oNeB : OpR X (compareOp .NotEq) (rBb fun i j => !decide (i = j)) := OpR.imp op_ne fun x y H Q ⟨i, j, h1, h2, q⟩ => by
  subst h1 h2
  refine ⟨rfl, ?_⟩
  rw [dB]
  exact q

/-- 10 ** 18, 10 ** 40, 10 ** 60 -/
def rP (e : Int) (z : Int) : R2 := fun x y H Q => x = .int 10 ∧ y = .int e ∧ Q (.int z) H
theorem oP18 : OpR X (binaryOp .Pow) (rP 18 1000000000000000000) := OpR.imp op_pow fun x y H Q ⟨h1, h2, q⟩ => ⟨10, 18, h1, h2, ⟨by decide, by decide, by decide⟩, q⟩
theorem oP40 : OpR X (binaryOp .Pow) (rP 40 10000000000000000000000000000000000000000) := OpR.imp op_pow fun x y H Q ⟨h1, h2, q⟩ => ⟨10, 40, h1, h2, ⟨by decide, by decide, by decide⟩, q⟩
theorem oP60 : OpR X (binaryOp .Pow) (rP 60 1000000000000000000000000000000000000000000000000000000000000) := OpR.imp op_pow fun x y H Q ⟨h1, h2, q⟩ => ⟨10, 60, h1, h2, ⟨by decide, by decide, by decide⟩, q⟩
/-! #### isinstance of built-in types -/
theorem kq_int_int {K : PySem.W.Frag} : PySem.W.kitOne K (.type "int") (.type "int") = some true := kit_ty (by decide +kernel)
theorem kq_int_bool {K : PySem.W.Frag} : PySem.W.kitOne K (.type "int") (.type "bool") = some false := kit_ty (by decide +kernel)
theorem kq_int_tuple {K : PySem.W.Frag} : PySem.W.kitOne K (.type "int") (.type "tuple") = some false := kit_ty (by decide +kernel)
theorem kq_bool_int {K : PySem.W.Frag} : PySem.W.kitOne K (.type "bool") (.type "int") = some true := kit_ty (by decide +kernel)
theorem kq_bool_bool {K : PySem.W.Frag} : PySem.W.kitOne K (.type "bool") (.type "bool") = some true := kit_ty (by decide +kernel)
theorem kq_bool_tuple {K : PySem.W.Frag} : PySem.W.kitOne K (.type "bool") (.type "tuple") = some false := kit_ty (by decide +kernel)
theorem kq_tuple_int {K : PySem.W.Frag} : PySem.W.kitOne K (.type "tuple") (.type "int") = some false := kit_ty (by decide +kernel)
theorem kq_tuple_bool {K : PySem.W.Frag} : PySem.W.kitOne K (.type "tuple") (.type "bool") = some false := kit_ty (by decide +kernel)
theorem kq_tuple_tuple {K : PySem.W.Frag} : PySem.W.kitOne K (.type "tuple") (.type "tuple") = some true := kit_ty (by decide +kernel)
theorem kq_NoneType_int {K : PySem.W.Frag} : PySem.W.kitOne K (.type "NoneType") (.type "int") = some false := kit_ty (by decide +kernel)
theorem kq_NoneType_bool {K : PySem.W.Frag} : PySem.W.kitOne K (.type "NoneType") (.type "bool") = some false := kit_ty (by decide +kernel)
theorem kq_NoneType_tuple {K : PySem.W.Frag} : PySem.W.kitOne K (.type "NoneType") (.type "tuple") = some false := kit_ty (by decide +kernel)
theorem kq_str_int {K : PySem.W.Frag} : PySem.W.kitOne K (.type "str") (.type "int") = some false := kit_ty (by decide +kernel)
theorem kq_str_bool {K : PySem.W.Frag} : PySem.W.kitOne K (.type "str") (.type "bool") = some false := kit_ty (by decide +kernel)
theorem kq_str_tuple {K : PySem.W.Frag} : PySem.W.kitOne K (.type "str") (.type "tuple") = some false := kit_ty (by decide +kernel)
theorem kq_list_int {K : PySem.W.Frag} : PySem.W.kitOne K (.type "list") (.type "int") = some false := kit_ty (by decide +kernel)
theorem kq_list_bool {K : PySem.W.Frag} : PySem.W.kitOne K (.type "list") (.type "bool") = some false := kit_ty (by decide +kernel)
theorem kq_list_tuple {K : PySem.W.Frag} : PySem.W.kitOne K (.type "list") (.type "tuple") = some false := kit_ty (by decide +kernel)
theorem kq_dict_int {K : PySem.W.Frag} : PySem.W.kitOne K (.type "dict") (.type "int") = some false := kit_ty (by decide +kernel)
theorem kq_dict_bool {K : PySem.W.Frag} : PySem.W.kitOne K (.type "dict") (.type "bool") = some false := kit_ty (by decide +kernel)
theorem kq_dict_tuple {K : PySem.W.Frag} : PySem.W.kitOne K (.type "dict") (.type "tuple") = some false := kit_ty (by decide +kernel)
theorem kit_own {K : PySem.W.Frag} {D C : Addr} {b : Bool} (h2 : PySem.W.isClsIn K C = true) (h3 : PySem.W.typeIn K (.ref C) = some (.type "type")) (h4 : PySem.W.subIn K (.ref D) (.ref C) = some b) (h5 : PySem.W.subIn K (.ref C) (.ref C) = some true) :
    PySem.W.kitOne K (.ref D) (.ref C) = some b := by
  unfold PySem.W.kitOne
  split
  · rename_i z
    have e : D = C := Value.ref.inj (beq_iff_eq.mp z)
    rw [← h4, e, h5]
  · have e2 : ((PySem.W.clsIn K C).isSome && PySem.W.typeIn K (.ref C) == some (.type "type")) = true := by
      have h2' : (PySem.W.clsIn K C).isSome = true := h2
      rw [h2', h3] <;> rfl
    show (if ((PySem.W.clsIn K C).isSome && PySem.W.typeIn K (.ref C) == some (.type "type")) = true then PySem.W.subIn K (.ref D) (.ref C) else none) = some b
    rw [if_pos e2]
    exact h4
/-! #### the heap's growth -/
theorem same_at {H H' : Hp} {p : Addr} {o : HO} (e : Same H H') (h : H p = some o) : H' p = some o := e _ _ h
theorem same_back {H H1 H2 : Hp} (e : Same H1 H2) (h : Same H H1) : Same H H2 := h.trans e
theorem same_seq {H H' : Hp} {a : Addr} {xs : List V} (e : Same H H') (h : SqL X.K H a xs) : SqL X.K H' a xs := e.seq h
theorem SqL.of_same {K : PySem.W.Frag} {H H' : Hp} {a : Addr} {xs : List V} (h : SqL K H a xs) (e : Same H H') : SqL K H' a xs := e.seq h
theorem look_no {f g : Str} {v : V} (h : (f == g) = false) : List.lookup f [(g, v)] = none := by simp [List.lookup, h]
/-! #### pairs -/
/-- at p stands the pair a, b -/
abbrev Pr (H : Hp) (p : Addr) (a b : Int) : Prop := H p = some (.tup [.int a, .int b])
def rPair (g : Int → Int → V) : List V → Hp → VK → Prop := fun xs H Q => ∃ (p : Addr) (a b : Int), xs = [.ref p] ∧ Pr H p a b ∧ Q (g a b) H
theorem pair_holds {h : Heap} {a b : Int} {its : List Value} (r : Vals [.int a, .int b] its) : PySem.W.HoldAll h its ([a, b] : List Int) := by
  cases r with
  | cons r1 r =>
    cases r with
    | cons r2 r =>
      cases r
      obtain ⟨t1, rfl⟩ := r1
      obtain ⟨t2, rfl⟩ := r2
      exact .cons ⟨_, .int _ _⟩ (.cons ⟨_, .int _ _⟩ .nil)
theorem cMinP (hc : X.calm = true) (hu : X.A.units + 1 < cLine) : CallR X (.builtin "min") (rPair fun a b => .int (min a b)) := by
  intro pins s σ H vs us Q I r h
  obtain ⟨p, a, b, rfl, hp, q⟩ := h
  obtain ⟨its, rv, hl, _⟩ := I.tuple (SqT.of hp)
  rw [Vals.ref1 r]
  obtain ⟨o, h1, h2, h3⟩ := hl
  refine PySem.W.min_tuple_datum (α := Int) (I.ok.hd hc) (x := a) (xs := [b]) ⟨o, h1, h2, h3⟩ (by simpa using pair_holds rv) hu fun i v h' tk hi hv hk => ?_
  obtain ⟨as, ra⟩ := hv
  obtain ⟨t, rfl, _⟩ := reads_int_inv ra
  refine ⟨.int _, H, I.kept hk, ⟨_, rfl⟩, ?_⟩
  have e : PySem.W.minOf a [b] = min a b := by
    show (if decide (b < a) = true then b else a) = min a b
    split <;> simp_all <;> omega
  rw [e]
  exact q
theorem cMaxP (hc : X.calm = true) (hu : X.A.units + 1 < cLine) : CallR X (.builtin "max") (rPair fun a b => .int (max a b)) := by
  intro pins s σ H vs us Q I r h
  obtain ⟨p, a, b, rfl, hp, q⟩ := h
  obtain ⟨its, rv, hl, _⟩ := I.tuple (SqT.of hp)
  rw [Vals.ref1 r]
  obtain ⟨o, h1, h2, h3⟩ := hl
  refine PySem.W.max_tuple_datum (α := Int) (I.ok.hd hc) (x := a) (xs := [b]) ⟨o, h1, h2, h3⟩ (by simpa using pair_holds rv) hu fun i v h' tk hi hv hk => ?_
  obtain ⟨as, ra⟩ := hv
  obtain ⟨t, rfl, _⟩ := reads_int_inv ra
  refine ⟨.int _, H, I.kept hk, ⟨_, rfl⟩, ?_⟩
  have e : PySem.W.maxOf a [b] = max a b := by
    show (if decide (a < b) = true then b else a) = max a b
    split <;> simp_all <;> omega
  rw [e]
  exact q
/-- == of two pairs, in a pair -/
def rPP (g : Bool → Bool) : R2 := fun x y H Q => ∃ (p q : Addr) (a b c d : Int), x = .ref p ∧ y = .ref q ∧ Pr H p a b ∧ Pr H q c d ∧ Q (.bl (g (decide (a = c ∧ b = d)))) H
theorem pair_dp {K : PySem.W.Frag} {H : Hp} {p : Addr} {a b : Int} (h : Pr H p a b) : Dp K H (.ref p) (.tuple [.int a, .int b]) := .tup (SqT.of h) (.cons (.int a) (.cons (.int b) .nil))
theorem pair_shaped (a b : Int) : SeqAt.shaped (.tuple [.int a, .int b]) = true := rfl
theorem pair_eqv (a b c d : Int) : PyData.eqv (.tuple [.int a, .int b]) (.tuple [.int c, .int d]) = decide (a = c ∧ b = d) := by
  simp only [PyData.eqv, PyData.eqvAll]
  by_cases h1 : a = c <;> by_cases h2 : b = d <;> simp [h1, h2]
theorem oEqP (hu : X.A.units + 64 < cLine) : OpR X (compareOp .Eq) (rPP id) := OpR.imp (op_eqD hu) fun x y H Q ⟨p, q, a, b, c, d, h1, h2, h3, h4, k⟩ => by
  subst h1 h2
  refine ⟨_, _, pair_dp h3, pair_dp h4, pair_shaped a b, pair_shaped c d, ?_⟩
  rw [pair_eqv]
  exact k
theorem oNeP (hu : X.A.units + 64 < cLine) : OpR X (compareOp .NotEq) (rPP not) := OpR.imp (op_neD hu) fun x y H Q ⟨p, q, a, b, c, d, h1, h2, h3, h4, k⟩ => by
  subst h1 h2
  refine ⟨_, _, pair_dp h3, pair_dp h4, pair_shaped a b, pair_shaped c d, ?_⟩
  rw [pair_eqv]
  exact k
def rInP (g : Bool → Bool) : R2 := fun x y H Q => ∃ (i : Int) (p : Addr) (a b : Int), x = .int i ∧ y = .ref p ∧ Pr H p a b ∧ Q (.bl (g (decide (a = i ∨ b = i)))) H
theorem inV_pair (i a b : Int) : inV (.int i) [.int a, .int b] = decide (a = i ∨ b = i) := by
  show ((a == i) || ((b == i) || false)) = _
  by_cases h1 : a = i <;> by_cases h2 : b = i <;> simp [h1, h2]
theorem oInP : OpR X (compareOp .In) (rInP id) := OpR.imp op_in_seq fun x y H Q ⟨i, p, a, b, h1, h2, h3, k⟩ => by
  subst h1 h2
  refine ⟨p, _, rfl, .inr (SqT.of h3), rfl, rfl, ?_⟩
  rw [inV_pair]
  exact k
theorem oNotInP : OpR X (compareOp .NotIn) (rInP not) := OpR.imp op_notIn_seq fun x y H Q ⟨i, p, a, b, h1, h2, h3, k⟩ => by
  subst h1 h2
  refine ⟨p, _, rfl, .inr (SqT.of h3), rfl, rfl, ?_⟩
  rw [inV_pair]
  exact k
end
end TH


namespace TW
open PySem PySem.Spec PyProof.Rows L2 TH
def primes : List Int := [1000003, 1000033, 1000037, 1000039, 1000081, 1000099, 1000117, 1000121, 1000133, 1000151, 1000159, 1000171, 1000183, 1000187, 1000193, 1000199]
theorem prime_at (k : Int) : ∃ v : Int, atI (primes.map V.int) (k % 16) = some (.int v) ∧ 0 < v := by
  have h0 := Int.emod_nonneg k (show (16 : Int) ≠ 0 by decide)
  have h1 := Int.emod_lt_of_pos k (show (0 : Int) < 16 by decide)
  obtain ⟨j, e⟩ := Int.eq_ofNat_of_zero_le h0
  have hj : j < primes.length := by show j < 16; omega
  refine ⟨primes[j], ?_, (show ∀ v ∈ primes, (0 : Int) < v by decide) _ (List.getElem_mem hj)⟩
  rw [e]
  exact atI_nat (by rw [List.getElem?_map, List.getElem?_eq_getElem hj]; rfl)
end TW

namespace TW
open PySem PySem.Spec PyProof.Rows L2 TH
theorem cut63 {ns : List Int} (h : ns.length ≤ 63) : cutV (ns.map V.int) none (some 63) = ns.map V.int := by
  unfold cutV
  rw [show HT.sIx (ns.map V.int).length (ns.map V.int).length (some 63) = min 63 (ns.map V.int).length from HT.sIx_nat _ _ 63, HT.sIx_none, List.drop_zero]
  rw [List.length_map]
  exact List.take_of_length_le (by rw [List.length_map]; omega)
theorem rg5 : ∀ L : Nat, L < 64 → (Builtin.Range.small 0 (L : Int) (1 + (L : Int) / 5) = true ∧ 0 ≤ Builtin.Range.rangeSize 0 (L : Int) (1 + (L : Int) / 5) ∧ Builtin.Range.rangeSize 0 (L : Int) (1 + (L : Int) / 5) * (1 + (L : Int) / 5) ≤ 100) := by decide +kernel
theorem rg_ok {L : Nat} (h : L ≤ 63) : RgC 0 (L : Int) (1 + (L : Int) / 5) (Builtin.Range.rangeSize 0 (L : Int) (1 + (L : Int) / 5)).toNat := by
  obtain ⟨h1, h2, h3⟩ := rg5 L (by omega)
  exact ⟨by omega, by omega, h1, by omega⟩
theorem rg_at {L i : Nat} (h : L ≤ 63) (hi : i < (Builtin.Range.rangeSize 0 (L : Int) (1 + (L : Int) / 5)).toNat) : 0 ≤ (0 : Int) + (i : Int) * (1 + (L : Int) / 5) ∧ (0 : Int) + (i : Int) * (1 + (L : Int) / 5) ≤ 100 := by
  obtain ⟨h1, h2, h3⟩ := rg5 L (by omega)
  have h4 : (0 : Int) ≤ 1 + (L : Int) / 5 := by omega
  have h5 := Int.mul_nonneg (show (0 : Int) ≤ (i : Int) by omega) h4
  have h6 := Int.mul_le_mul_of_nonneg_right (show (i : Int) ≤ Builtin.Range.rangeSize 0 (L : Int) (1 + (L : Int) / 5) by omega) h4
  omega
end TW

namespace TH
theorem les_one {t : Int} (ht : 1 ≤ t) : les t 1 = 1 := les_of (j := 0) ht (by decide) (by decide) (by unfold q; omega) (by unfold q; omega)
theorem lost_one {t : Int} (ht : 1 ≤ t) : IsLost t 1 (1 + t) := by
  have h := lost_of ht (show (0 : Int) ≤ 1 by decide)
  have e : oth t 1 = 1 + t := by unfold oth; rw [les_one ht]; omega
  rwa [les_one ht, e] at h
theorem lost_nil {t : Int} (ht : 1 ≤ t) : IsLost t 0 0 := by
  have h := lost_of ht (show (0 : Int) ≤ 0 by decide)
  rwa [les0, oth0] at h
end TH
/-! ### p[::-1] of a pair -/
namespace TH
open PySem PySem.Spec PyProof.Rows L2
section
variable {prog : Program} {w : World} {A : Around} {E : Value → Shared → Prop} {s : Shared}
theorem applied_back {z : Addr} {v1 v2 v3 : Value} {Q : Int × Int × Nat → Shared → Prop} (hz : s.heap.IsSliceOf z v1 v2 v3) (p1 : IsPart v1 none) (p2 : IsPart v2 none) (p3 : IsPart v3 (some (-1)))
    (h : Q (1, -1, 2) s) : wpAny (model prog w) A (Builtin.Slice.sliceApplied (.ref z) (pure 2)) Q E s := by
  obtain ⟨o, ho, _, hd⟩ := id hz
  delta Builtin.Slice.sliceApplied Builtin.Slice.sliceFields
  refine wpAny_bind (wpAny_bind (wpAny_field ho hd (x := v1) rfl (wpAny_bind (wpAny_field ho hd (x := v2) rfl (wpAny_bind (wpAny_field ho hd (x := v3) rfl (wpAny_pure ?_)))))))
  refine wpAny_bind (HT.slicePart_ p3 ?_)
  show wpAny _ _ (if ((-1 : Int) == 0) = true then _ else _) _ _ s
  rw [if_neg (by decide)]
  exact wpAny_bind (HT.slicePart_ p1 (wpAny_bind (HT.slicePart_ p2 (wpAny_bind (wpAny_pure (wpAny_pure h))))))
theorem pair_back {t z : Addr} {u v v1 v2 v3 : Value} {Q : Value → Shared → Prop} (ht : IsTup s.heap t #[u, v]) (hz : s.heap.IsSliceOf z v1 v2 v3) (p1 : IsPart v1 none) (p2 : IsPart v2 none) (p3 : IsPart v3 (some (-1)))
    (h : Q (.ref s.heap.objs.size) { s with heap := s.heap.push { cls := .type "tuple", data := .seq #[v, u] } }) : wpAny (model prog w) A (getItem (.ref t) (.ref z)) Q E s := by
  obtain ⟨o, ho, hc, _⟩ := id hz
  have hT : s.TypeIs (.ref z) "slice" := ⟨o, ho, hc⟩
  delta getItem
  try with_reducible refine wpAny_holding ?_
  first | refine wpAny_bind (wpAny_pure ?_) | skip
  refine wpAny_bind (wpAny_sequenceKey ht.typeIs (by decide) ?_)
  refine wpAny_bind (wpAny_callSpecial?_slot (name := Str.ofString "__getitem__") ht.typeIs PyProof.Rows.slot_tuple_getitem (wpAny_call_entry PyProof.Rows.slot_tuple_getitem ht.typeIs entry_tuple_getitem ?_ (args_tuple_getitem _ _)))
  show wpAny _ _ (Builtin.Tuple.tupleItemsOf (.ref t) >>= _) _ _ s
  refine wpAny_bind (tupleItemsOf_ ht (wpAny_bind (wpAny_typeOf hT ?_)))
  rw [if_pos (by decide)]
  refine wpAny_bind (applied_back hz p1 p2 p3 ?_)
  show wpAny _ _ (if ((1 : Int) == 0 && (-1 : Int) == 1 && (2 : Nat) == 2) = true then _ else _) _ _ s
  rw [if_neg (by decide)]
  have hsz : sizeOk (.seq (#[v, u] : Array Value)) := by
    show (2 : Nat) ≤ sizeLine
    decide
  have e : ((List.range 2).filterMap fun (k : Nat) => (#[u, v] : Array Value)[((1 : Int) + (k : Int) * (-1)).toNat]?).toArray = #[v, u] := rfl
  rw [e]
  first
    | exact wpAny_bind (m := Builtin.Tuple.tupleExact _) (wpAny_newObj_type (wpAny_pure ⟨_, rfl, wpAny_pure h⟩) hsz)
    | exact wpAny_bind (m := Builtin.Tuple.tupleExact _) (wpAny_newObj_type (wpAny_bind (wpAny_pure (wpAny_pure ⟨_, rfl, wpAny_pure h⟩))) hsz)
    | exact wpAny_bind (wpAny_bind (m := Builtin.Tuple.tupleExact _) (wpAny_newObj_type (wpAny_pure (wpAny_pure ⟨_, rfl, wpAny_pure h⟩)) hsz))
    | exact wpAny_bind (wpAny_bind (m := Builtin.Tuple.tupleExact _) (wpAny_newObj_type (wpAny_pure ⟨_, rfl, wpAny_pure h⟩) hsz))
end
def tRevP (te : TE) : TE := fun σ H Q => te σ H fun x H1 => ∃ (p : Addr) (a b : Int), x = .ref p ∧ Pr H1 p a b ∧ ∀ r H2, H1 r = none → Same H1 H2 → Pr H2 r b a → Q (.ref r) H2
theorem pe_revP {X : Cx} {e : Expr} {te : TE} {k : Nat} {p1 p2 p3 pos : Pos} (he : PE X e te) : PE X (.Subscript e (.Slice none none (some (.UnaryOp .USub (.Constant (.int 1) k p1) p2)) p3) pos) (tRevP te) := by
  refine ⟨fun pins s σ H Q I h => Subscript_ (thn (he.run pins s σ H _ I h) fun v s1 ⟨x, H1, I1, r1, q1⟩ => ?_)⟩
  obtain ⟨p, a, b, rfl, hp, q⟩ := q1
  cases r1
  have hst : PO X (some (.UnaryOp .USub (.Constant (.int 1) k p1) p2)) (tPart (tUn (rU fun i => .int (-i)) (tC (.int 1)))) := po_some (pe_un un_neg pe_int)
  refine wpAny_Slice (thn (po_none.run pins s1 σ H1 (fun o H2 => o = none ∧ H2 = H1) I1 ⟨rfl, rfl⟩) fun w1 s2 ⟨l, H2, I2, pl, el, e2⟩ => ?_)
  subst el e2
  refine thn (po_none.run pins s2 σ H2 (fun o H3 => o = none ∧ H3 = H2) I2 ⟨rfl, rfl⟩) fun w2 s3 ⟨u, H3, I3, pu, eu, e3⟩ => ?_
  subst eu e3
  refine thn (hst.run pins s3 σ H3 (fun o H4 => o = some (-1) ∧ H4 = H3) I3 ⟨1, rfl, -1, rfl, rfl, rfl⟩) fun w3 s4 ⟨o, H4, I4, pz, eo, e4⟩ => ?_
  subst eo e4
  have I5 : Inv X pins σ H4 { s4 with heap := s4.heap.push { cls := .type "slice", data := .fields #[w1, w2, w3] } } := I4.kept (t' := s4.toks) fun b ob q => Heap.get?_push_of_some _ q
  obtain ⟨its, r, ht, hz⟩ := I5.tuple (SqT.of hp)
  cases r with
  | cons ra r =>
  cases r with
  | cons rb r =>
  cases r
  rename_i ua ub
  show wpAny (model X.prog X.w) X.A (subscriptTail e (.Slice none none (some (.UnaryOp .USub (.Constant (.int 1) k p1) p2)) p3) (.ref p) (.ref s4.heap.objs.size)) (EP X pins σ Q) X.xe { s4 with heap := s4.heap.push { cls := .type "slice", data := .fields #[w1, w2, w3] } }
  refine tail_any (ops := [.ref p, .ref s4.heap.objs.size]) ht.typeIs (PyProof.Rows.slot_tuple_getitem.lookup) ?_ (by with_unfolding_all rfl)
  refine pair_back ht (Heap.IsSliceOf.new _ w1 w2 w3) pl pu pz ?_
  have hn := I5.hok.fresh (Nat.le_refl _)
  refine ⟨.ref _, _, I5.laid (t' := s4.toks) (o := .tup [.int b, .int a]) (fun b ob q => Heap.get?_push_of_some _ q) (Nat.le_refl _) ?_, rfl, q _ _ hn (Same.new hn) upd_same⟩
  exact ⟨by show 2 ≤ sizeLine; decide, [ub, ua], .cons rb (.cons ra .nil), ⟨_, Heap.get?_push_size _ rfl, rfl, _, rfl⟩⟩
end TH

namespace TW
open PySem PySem.Spec PyProof.Rows L2 TH
/-- a comprehension over a list, each of its items True -/
theorem lc_true {K : PySem.W.Frag} {a : Addr} {xs : List V} {te : TE} {vs : List Nat} {j : Nat} {σ : L2.St} {H1 : Hp} {D : Addr} {Qd : Hp → Prop} (hD : H1 D = none) (HL : SqL K H1 a xs) (hlen : xs.length ≤ 1000)
    (hw : ∀ x, wipe ((wipe σ vs).set j (some x)) vs = wipe σ vs)
    (hs : ∀ x H (Q : VK), x ∈ xs → Same H1 H → (∀ H', Same H H' → Q (.bl true) H') → te ((wipe σ vs).set j (some x)) H Q)
    (hd : ∀ H, Same H1 H → H D = some (.lst ((List.replicate xs.length true).map V.bl)) → Qd H) :
    ∃ W : Nat → Nat → Hp → Prop, (∃ m, W 0 m (upd H1 D (.lst []))) ∧ ∀ i m H, W i m H →
      ((Itl K a).stop i H ∧ Qd H) ∨ ((Itl K a).go i H ∧ ∃ Nx : Hp → Prop, (∀ H', Nx H' → ∃ m', m' < m ∧ W (i + 1) m' H') ∧ ∀ x H', (Itl K a).yld i H x H' → gName j x (wipe σ vs) H' fun σ2 H2 => wipe σ2 vs = wipe σ vs ∧ tYes σ2 H2 fun b H3 =>
        if b = true then te σ2 H3 fun y H4 => ∃ acc, H4 D = some (.lst acc) ∧ acc.length < sizeLine ∧ Nx (upd H4 D (.lst (acc ++ [y]))) else Nx H3) := by
  refine lc_list (K := K) (a := a) (xs := xs) (fun i H => i ≤ xs.length ∧ Same H1 H ∧ H D = some (.lst ((List.replicate i true).map V.bl))) ⟨Nat.zero_le _, Same.new hD, upd_same⟩ (fun i H _ h => h.2.1.seq HL) (fun i x H hx h => ?_) (fun H h => hd H h.2.1 h.2.2)
  obtain ⟨hi, e, hl⟩ := h
  have hi2 := (List.getElem?_eq_some_iff.mp hx).1
  refine ⟨hw x, ?_⟩
  show te ((wipe σ vs).set j (some x)) H _
  refine hs x H _ (List.mem_of_getElem? hx) e fun H' e' => ⟨_, e' D _ hl, ?_, hi2, fun b o hb => ?_, ?_⟩
  · rw [List.length_map, List.length_replicate]
    exact Nat.lt_of_le_of_lt (Nat.le_trans hi hlen) (by decide)
  · have nb : b ≠ D := fun z => by rw [z, hD] at hb; cases hb
    rw [upd_ne nb]
    exact e' b o (e b o hb)
  · rw [upd_same, List.replicate_succ', List.map_append]
    rfl
theorem all_rep (n : Nat) : (List.replicate n true).all id = true := by
  rw [List.all_eq_true]
  intro x hx
  rw [List.eq_of_mem_replicate hx]
  rfl
theorem bd_of {a : Nat} {i j : Int} (hj : Bd a j) (h1 : -(2 * j) ≤ i) (h2 : i ≤ j) : Bd (a + 1) i := ⟨by
  have h := hj.out
  have e : 2 ^ (a + 1) = 2 ^ a + 2 ^ a := by omega
  omega⟩
def rCatA : R2 := fun x y H Q => ∃ l b xs zs, x = .ref l ∧ y = .ref b ∧ H l = some (.lst xs) ∧ H b = some (.lst zs) ∧ xs.length + zs.length ≤ 1000 ∧ ∀ p H2, H p = none → Same H H2 → H2 p = some (.lst (xs ++ zs)) → Q (.ref p) H2
theorem oCat {X : Cx} : OpR X (binaryOp .Add) rCatA := OpR.imp op_cat fun x y H Q ⟨l, b, xs, zs, h1, h2, h3, h4, h5, q⟩ => ⟨l, b, xs, zs, h1, h2, h3, h4, Nat.le_trans h5 (by decide), fun p hp => q p _ hp (Same.new hp) upd_same⟩
end TW

set_option hygiene false
local macro_rules | `(tactic| walk_at "hp") => `(tactic| first | assumption | exact upd_same | (refine same_at (by assumption) ?_; walk_at "hp"))
local macro_rules | `(tactic| walk_at "sm") => `(tactic| first | assumption | exact Same.refl _ | (refine same_back (by assumption) ?_; walk_at "sm"))
local macro_rules | `(tactic| walk_at "bd") => `(tactic| first | assumption | exact bd_lit | (apply bd_add; (walk_at "bd"); (walk_at "bd")) | (apply bd_sub; (walk_at "bd"); (walk_at "bd")) | (apply bd_mul; (walk_at "bd"); (walk_at "bd")) | (apply bd_neg; (walk_at "bd")) | (apply bd_mod; (walk_at "bd"); omega) | (apply bd_div; (walk_at "bd"); omega) | fail)
local macro_rules | `(tactic| walk_at "bdm") => `(tactic| (apply bd_mono'; (walk_at "bd"); exact rfl))
local macro_rules | `(tactic| walk_at "side") => `(tactic| first | assumption | omega | (apply cm_ok; (walk_at "bd"); (walk_at "bd"); exact rfl) | (apply cd_ok; omega; (walk_at "bd"); exact rfl) | (apply bd_le64; exact rfl) | (walk_at "bdm") | decide | fail)
local macro_rules | `(tactic| walk_at "is") => `(tactic| first
  | (refine ⟨_, _, _, _, _, rfl, .ty _, .base (.int _), (by first | exact kq_int_int | exact kq_int_bool | exact kq_int_tuple), ?_⟩)
  | (refine ⟨_, _, _, _, _, rfl, .ty _, .base (.bl _), (by first | exact kq_bool_int | exact kq_bool_bool | exact kq_bool_tuple), ?_⟩)
  | (refine ⟨_, _, _, _, _, rfl, .ty _, .base .non, (by first | exact kq_NoneType_int | exact kq_NoneType_bool | exact kq_NoneType_tuple), ?_⟩)
  | (refine ⟨_, _, _, _, _, rfl, .ty _, .base (.str _), (by first | exact kq_str_int | exact kq_str_bool | exact kq_str_tuple), ?_⟩)
  | (refine ⟨_, _, _, _, _, rfl, .ty _, .base (.tup (by walk_at "hp")), (by first | exact kq_tuple_int | exact kq_tuple_bool | exact kq_tuple_tuple), ?_⟩)
  | (refine ⟨_, _, _, _, _, rfl, .ty _, .base (.lst (by walk_at "hp")), (by first | exact kq_list_int | exact kq_list_bool | exact kq_list_tuple), ?_⟩)
  | (refine ⟨_, _, _, _, _, rfl, .ty _, .base (.dK (by walk_at "hp")), (by first | exact kq_dict_int | exact kq_dict_bool | exact kq_dict_tuple), ?_⟩))
local macro_rules | `(tactic| walk_at "ix") => `(tactic| refine ⟨_, _, _, _, rfl, rfl, SqT.of (by walk_at "hp"), rfl, ?_⟩)
local macro_rules | `(tactic| walk_at "sq") => `(tactic| first | assumption | exact SqL.of (by walk_at "hp") | (refine Same.seq (by assumption) ?_; walk_at "sq"))
local macro_rules | `(tactic| walk_at "ln") => `(tactic| first | (refine ⟨_, _, rfl, .inl ⟨_, by walk_at "sq", rfl⟩, ?_⟩) | (refine ⟨_, _, rfl, .inr ⟨_, SqT.of (by walk_at "hp"), rfl⟩, ?_⟩))
local macro_rules | `(tactic| walk_at "pp") => `(tactic| (refine ⟨_, _, _, _, _, _, rfl, rfl, (by walk_at "hp"), (by walk_at "hp"), ?_⟩))
local macro_rules | `(tactic| walk_at "inp") => `(tactic| (refine ⟨_, _, _, _, rfl, rfl, (by walk_at "hp"), ?_⟩))
local macro_rules | `(tactic| walk_at "sl") => `(tactic| refine ⟨_, _, rfl, (show SqL _ _ _ _ by walk_at "sq"), ?_⟩)
local macro_rules | `(tactic| walk_at "pr") => `(tactic| first | refine ⟨_, _, _, rfl, (show _ = _ by walk_at "hp"), ?_⟩ | refine ⟨_, _, _, rfl, (show SqL _ _ _ _ by walk_at "sq"), ?_⟩)
local macro_rules | `(tactic| walk_at "may") => `(tactic| (refine ⟨_, _, _, _, _, _, _, rfl, (show _ = _ by walk_at "hp"), (show _ = _ by walk_at "hp"), ?_⟩))
local macro_rules | `(tactic| walk_at "pr4") => `(tactic| (refine ⟨_, _, _, _, rfl, (show _ = _ by walk_at "hp"), ?_⟩))
local macro_rules | `(tactic| walk_at "tg") => `(tactic| (refine ⟨_, _, rfl, SqT.of (by walk_at "hp"), rfl, ?_⟩))
local macro_rules | `(tactic| walk_at "pr5") => `(tactic| (refine ⟨_, _, _, _, _, rfl, (show _ = _ by walk_at "hp"), ?_⟩))
local macro_rules | `(tactic| walk_at "mt") => `(tactic| (refine ⟨_, _, _, rfl, (show _ = _ by walk_at "hp"), look_no (by decide +kernel), ?_⟩))
local macro_rules | `(tactic| walk_at "ws") => `(tactic| (refine ⟨_, _, _, _, _, _, _, _, _, rfl, (show _ = _ by walk_at "hp"), (show _ = _ by walk_at "hp"), (show _ = _ by walk_at "hp"), ?_⟩))
local macro_rules | `(tactic| walk_at "isc") => `(tactic| first | (refine ⟨_, _, _, _, _, rfl, .own _, T.ins_Lost (by walk_at "hp"), (by first | exact T.k_Lost_Lost | exact T.k_Lost_Won), ?_⟩) | (refine ⟨_, _, _, _, _, rfl, .own _, T.ins_Won (by walk_at "hp"), (by first | exact T.k_Won_Lost | exact T.k_Won_Won), ?_⟩) | fail)
local macro_rules | `(tactic| walk_at "fl") => `(tactic| first | (refine ⟨_, T.a_Lost, _, _, _, rfl, (show _ = _ by walk_at "hp"), T.c_Lost, T.nf_Lost_number, rfl, ?_⟩) | (refine ⟨_, T.a_Won, _, _, _, rfl, (show _ = _ by walk_at "hp"), T.c_Won, T.nf_Won_taking, rfl, ?_⟩) | fail)
local macro_rules | `(tactic| walk_at "rd") => `(tactic| repeat (first
  | (refine ⟨_, rfl, ?_⟩)
  | (refine ⟨_, _, rfl, rfl, ?_⟩)
  | (refine ⟨rfl, rfl, ?_⟩)
  | (walk_at "ix")
  | (walk_at "is")
  | (walk_at "ln")
  | (walk_at "pp")
  | (walk_at "inp")
  | (walk_at "pr")
  | (walk_at "pr4")
  | (walk_at "mt")
  | (walk_at "may")
  | (walk_at "ws")
  | (walk_at "pr5")
  | (walk_at "tg")
  | (walk_at "fl")
  | (walk_at "isc")
  | (walk_at "sl")
  | (refine ⟨_, _, rfl, rfl, (by (show (_ : Prop)); walk_at "side"), ?_⟩)
  | (refine ⟨_, _, rfl, ?_⟩)
  | (refine ⟨_, _, _, rfl, ?_⟩)
  | (refine ⟨(by (show (_ : Prop)); walk_at "side"), ?_⟩)
  | (refine ⟨(show ([] : List V) = [] from rfl), ?_⟩)
  | fail))
local macro_rules | `(tactic| walk_at "br") => `(tactic| (refine ite2 (fun c => ?_) (fun c => ?_) <;> simp only [decide_eq_true_eq, Bool.not_eq_true', decide_eq_false_iff_not, Bool.not_eq_true, Bool.true_eq_false, Bool.false_eq_true, Bool.not_true, Bool.not_false, not_true, not_false_eq_true] at c))

namespace TW
open PySem PySem.Spec PyProof.Rows L2 TH

def topS (i : Nat) : Stmt := PySem.Challenge.pw_twoheaps_k04_answers_by_hand.main.body.getD i (.Pass ⟨0, 0, 0, 0⟩)
abbrev s_is_whole : Stmt := topS 5
theorem sc_is_whole : FnScope ["thing"] ["thing"] (defScope s_is_whole) := ⟨rfl, rfl, rfl, by decide +kernel, rfl, by decide +kernel, by decide +kernel⟩
abbrev s_is_pair : Stmt := topS 6
theorem sc_is_pair : FnScope ["thing"] ["thing"] (defScope s_is_pair) := ⟨rfl, rfl, rfl, by decide +kernel, rfl, by decide +kernel, by decide +kernel⟩
abbrev s_check_bound : Stmt := topS 7
theorem sc_check_bound : FnScope ["bound"] ["bound"] (defScope s_check_bound) := ⟨rfl, rfl, rfl, by decide +kernel, rfl, by decide +kernel, by decide +kernel⟩
abbrev s_check_heaps : Stmt := topS 8
theorem sc_check_heaps : FnScope ["heaps"] ["heaps"] (defScope s_check_heaps) := ⟨rfl, rfl, rfl, by decide +kernel, rfl, by decide +kernel, by decide +kernel⟩
abbrev s_may_be : Stmt := topS 9
theorem sc_may_be : FnScope ["bound", "heaps", "taking"] ["bound", "heaps", "taking"] (defScope s_may_be) := ⟨rfl, rfl, rfl, by decide +kernel, rfl, by decide +kernel, by decide +kernel⟩
abbrev s_root_of : Stmt := topS 11
theorem sc_root_of : FnScope ["number", "now"] ["number"] (defScope s_root_of) := ⟨rfl, rfl, rfl, by decide +kernel, rfl, by decide +kernel, by decide +kernel⟩
abbrev s_lesser_of : Stmt := topS 12
theorem sc_lesser_of : FnScope ["bound", "number"] ["bound", "number"] (defScope s_lesser_of) := ⟨rfl, rfl, rfl, by decide +kernel, rfl, by decide +kernel, by decide +kernel⟩
abbrev s_pair_of : Stmt := topS 13
theorem sc_pair_of : FnScope ["bound", "number", "least"] ["bound", "number"] (defScope s_pair_of) := ⟨rfl, rfl, rfl, by decide +kernel, rfl, by decide +kernel, by decide +kernel⟩
abbrev s_place_of : Stmt := topS 14
theorem sc_place_of : FnScope ["bound", "number", "found"] ["bound", "number"] (defScope s_place_of) := ⟨rfl, rfl, rfl, by decide +kernel, rfl, by decide +kernel, by decide +kernel⟩
abbrev s_is_lost : Stmt := topS 17
theorem sc_is_lost : FnScope ["bound", "heaps", "apart"] ["bound", "heaps"] (defScope s_is_lost) := ⟨rfl, rfl, rfl, by decide +kernel, rfl, by decide +kernel, by decide +kernel⟩
abbrev s_Lost_init : Stmt := inClass (topS 18) 0
theorem sc_Lost_init : FnScope ["self", "number"] ["self", "number"] (defScope s_Lost_init) := ⟨rfl, rfl, rfl, by decide +kernel, rfl, by decide +kernel, by decide +kernel⟩
abbrev s_Lost_shows : Stmt := inClass (topS 18) 1
theorem sc_Lost_shows : FnScope ["self", "bound", "heaps"] ["self", "bound", "heaps"] (defScope s_Lost_shows) := ⟨rfl, rfl, rfl, by decide +kernel, rfl, by decide +kernel, by decide +kernel⟩
abbrev s_Won_init : Stmt := inClass (topS 19) 0
theorem sc_Won_init : FnScope ["self", "taking"] ["self", "taking"] (defScope s_Won_init) := ⟨rfl, rfl, rfl, by decide +kernel, rfl, by decide +kernel, by decide +kernel⟩
abbrev s_Won_shows : Stmt := inClass (topS 19) 1
theorem sc_Won_shows : FnScope ["self", "bound", "heaps"] ["self", "bound", "heaps"] (defScope s_Won_shows) := ⟨rfl, rfl, rfl, by decide +kernel, rfl, by decide +kernel, by decide +kernel⟩
abbrev s_taking_of : Stmt := topS 21
theorem sc_taking_of : FnScope ["bound", "low", "high", "pair", "partner", "number", "least"] ["bound", "low", "high"] (defScope s_taking_of) := ⟨rfl, rfl, rfl, by decide +kernel, rfl, by decide +kernel, by decide +kernel⟩
abbrev s_told : Stmt := topS 22
theorem sc_told : FnScope ["bound", "heaps", "low", "high", "mine", "theirs"] ["bound", "heaps"] (defScope s_told) := ⟨rfl, rfl, rfl, by decide +kernel, rfl, by decide +kernel, by decide +kernel⟩
abbrev s__law_cell_at : Stmt := topS 24
theorem sc__law_cell_at : FnScope ["_law_script", "_law_k"] ["_law_script", "_law_k"] (defScope s__law_cell_at) := ⟨rfl, rfl, rfl, by decide +kernel, rfl, by decide +kernel, by decide +kernel⟩
abbrev s__law_draw : Stmt := topS 25
theorem sc__law_draw : FnScope ["_law_cell", "_law_k", "_law_many", "_law_primes"] ["_law_cell", "_law_k", "_law_many"] (defScope s__law_draw) := ⟨rfl, rfl, rfl, by decide +kernel, rfl, by decide +kernel, by decide +kernel⟩
abbrev s__law_number : Stmt := topS 26
theorem sc__law_number : FnScope ["_law_cell", "_law_k", "_law_limit"] ["_law_cell", "_law_k", "_law_limit"] (defScope s__law_number) := ⟨rfl, rfl, rfl, by decide +kernel, rfl, by decide +kernel, by decide +kernel⟩
abbrev s__law_root : Stmt := topS 27
theorem sc__law_root : FnScope ["_law_number_here", "_law_now"] ["_law_number_here"] (defScope s__law_root) := ⟨rfl, rfl, rfl, by decide +kernel, rfl, by decide +kernel, by decide +kernel⟩
abbrev s__law_pair : Stmt := topS 28
theorem sc__law_pair : FnScope ["_law_by", "_law_at", "_law_square", "_law_least"] ["_law_by", "_law_at"] (defScope s__law_pair) := ⟨rfl, rfl, rfl, by decide +kernel, rfl, by decide +kernel, by decide +kernel⟩
abbrev s__law_lost : Stmt := topS 29
theorem sc__law_lost : FnScope ["_law_by", "_law_both", "_law_low", "_law_high", "_law_apart"] ["_law_by", "_law_both"] (defScope s__law_lost) := ⟨rfl, rfl, rfl, by decide +kernel, rfl, by decide +kernel, by decide +kernel⟩
abbrev s__law_may : Stmt := topS 30
theorem sc__law_may : FnScope ["_law_bound_here", "_law_heaps_here", "_law_taking"] ["_law_bound_here", "_law_heaps_here", "_law_taking"] (defScope s__law_may) := ⟨rfl, rfl, rfl, by decide +kernel, rfl, by decide +kernel, by decide +kernel⟩
abbrev s__law_bound : Stmt := topS 31
theorem sc__law_bound : FnScope ["_law_script", "_law_k", "_law_cell", "_law_number_here"] ["_law_script", "_law_k"] (defScope s__law_bound) := ⟨rfl, rfl, rfl, by decide +kernel, rfl, by decide +kernel, by decide +kernel⟩
abbrev s__law_heaps : Stmt := topS 32
theorem sc__law_heaps : FnScope ["_law_script", "_law_k", "_law_bound_here", "_law_cell", "_law_kind", "_law_limit", "_law_mine", "_law_theirs"] ["_law_script", "_law_k", "_law_bound_here"] (defScope s__law_heaps) := ⟨rfl, rfl, rfl, by decide +kernel, rfl, by decide +kernel, by decide +kernel⟩
abbrev s__law_says : Stmt := topS 33
theorem sc__law_says : FnScope ["_law_said", "_law_due"] ["_law_said", "_law_due"] (defScope s__law_says) := ⟨rfl, rfl, rfl, by decide +kernel, rfl, by decide +kernel, by decide +kernel⟩
abbrev s__law_lost_right : Stmt := topS 34
theorem sc__law_lost_right : FnScope ["_law_bound_here", "_law_heaps_here", "_law_number_here", "_law_answer", "_law_due"] ["_law_bound_here", "_law_heaps_here", "_law_number_here"] (defScope s__law_lost_right) := ⟨rfl, rfl, rfl, by decide +kernel, rfl, by decide +kernel, by decide +kernel⟩
abbrev s__law_won_right : Stmt := topS 35
theorem sc__law_won_right : FnScope ["_law_bound_here", "_law_heaps_here", "_law_taking", "_law_answer", "_law_due"] ["_law_bound_here", "_law_heaps_here", "_law_taking"] (defScope s__law_won_right) := ⟨rfl, rfl, rfl, by decide +kernel, rfl, by decide +kernel, by decide +kernel⟩
abbrev s_law : Stmt := topS 36
theorem sc_law : FnScope ["_law_script", "_law_k", "_law_bound_here", "_law_cell", "_law_heaps_here", "_law_found", "_law_apart", "_law_number_here", "_law_taking", "_law_mine", "_law_theirs", "_law_some", "_law_good", "_law_bad", "_law_said", "_law_one"] ["_law_script"] (defScope s_law) := ⟨rfl, rfl, rfl, by decide +kernel, rfl, by decide +kernel, by decide +kernel⟩
/-- what the top has written -/
structure Txt (K : PySem.W.Frag) (mg : Str → Option Value) where
  a_Lost : Addr
  a_Won : Addr
  a_is_whole : Addr
  d_is_whole : FuncData
  a_is_pair : Addr
  d_is_pair : FuncData
  a_check_bound : Addr
  d_check_bound : FuncData
  a_check_heaps : Addr
  d_check_heaps : FuncData
  a_may_be : Addr
  d_may_be : FuncData
  a_root_of : Addr
  d_root_of : FuncData
  a_lesser_of : Addr
  d_lesser_of : FuncData
  a_pair_of : Addr
  d_pair_of : FuncData
  a_place_of : Addr
  d_place_of : FuncData
  a_is_lost : Addr
  d_is_lost : FuncData
  a_Lost_init : Addr
  d_Lost_init : FuncData
  a_Lost_shows : Addr
  d_Lost_shows : FuncData
  a_Won_init : Addr
  d_Won_init : FuncData
  a_Won_shows : Addr
  d_Won_shows : FuncData
  a_taking_of : Addr
  d_taking_of : FuncData
  a_told : Addr
  d_told : FuncData
  a__law_cell_at : Addr
  d__law_cell_at : FuncData
  a__law_draw : Addr
  d__law_draw : FuncData
  a__law_number : Addr
  d__law_number : FuncData
  a__law_root : Addr
  d__law_root : FuncData
  a__law_pair : Addr
  d__law_pair : FuncData
  a__law_lost : Addr
  d__law_lost : FuncData
  a__law_may : Addr
  d__law_may : FuncData
  a__law_bound : Addr
  d__law_bound : FuncData
  a__law_heaps : Addr
  d__law_heaps : FuncData
  a__law_says : Addr
  d__law_says : FuncData
  a__law_lost_right : Addr
  d__law_lost_right : FuncData
  a__law_won_right : Addr
  d__law_won_right : FuncData
  a_law : Addr
  d_law : FuncData
  g_Lost : mg "Lost" = some (.ref a_Lost)
  g_Won : mg "Won" = some (.ref a_Won)
  i_Lost : PySem.W.isClsIn K a_Lost = true
  ty_Lost : PySem.W.typeIn K (.ref a_Lost) = some (.type "type")
  su_Lost_Lost : PySem.W.subIn K (.ref a_Lost) (.ref a_Lost) = some true
  i_Won : PySem.W.isClsIn K a_Won = true
  ty_Won : PySem.W.typeIn K (.ref a_Won) = some (.type "type")
  su_Won_Won : PySem.W.subIn K (.ref a_Won) (.ref a_Won) = some true
  su_Lost_Won : PySem.W.subIn K (.ref a_Lost) (.ref a_Won) = some false
  ha_Lost : PySem.W.findIn K (.ref a_Lost) "__class__" = some (some (.builtin "object.__class__"))
  hm_Lost : PySem.W.mroIn K a_Lost (.type "object") = some true
  su_Won_Lost : PySem.W.subIn K (.ref a_Won) (.ref a_Lost) = some false
  ha_Won : PySem.W.findIn K (.ref a_Won) "__class__" = some (some (.builtin "object.__class__"))
  hm_Won : PySem.W.mroIn K a_Won (.type "object") = some true
  hn : PySem.W.specialIn K (.builtin "object.__class__") "__get__" = some (some (.builtin "getset_descriptor.__get__"))
  htk : PySem.W.takesIn K (.builtin "object.__class__") = some true
  c_Lost : Cls K a_Lost
  mt_Lost_shows : Meth K a_Lost "shows" a_Lost_shows
  m_Lost : Mk K a_Lost a_Lost_init
  nf_Lost_number : NoAttr K a_Lost "number"
  c_Won : Cls K a_Won
  mt_Won_shows : Meth K a_Won "shows" a_Won_shows
  m_Won : Mk K a_Won a_Won_init
  nf_Won_taking : NoAttr K a_Won "taking"
  F_is_whole : Fun K "is_whole" "is_whole" s_is_whole a_is_whole d_is_whole
  g_is_whole : mg "is_whole" = some (.ref a_is_whole)
  b_is_whole : Binds K d_is_whole ["thing"] []
  F_is_pair : Fun K "is_pair" "is_pair" s_is_pair a_is_pair d_is_pair
  g_is_pair : mg "is_pair" = some (.ref a_is_pair)
  b_is_pair : Binds K d_is_pair ["thing"] []
  F_check_bound : Fun K "check_bound" "check_bound" s_check_bound a_check_bound d_check_bound
  g_check_bound : mg "check_bound" = some (.ref a_check_bound)
  b_check_bound : Binds K d_check_bound ["bound"] []
  F_check_heaps : Fun K "check_heaps" "check_heaps" s_check_heaps a_check_heaps d_check_heaps
  g_check_heaps : mg "check_heaps" = some (.ref a_check_heaps)
  b_check_heaps : Binds K d_check_heaps ["heaps"] []
  F_may_be : Fun K "may_be" "may_be" s_may_be a_may_be d_may_be
  g_may_be : mg "may_be" = some (.ref a_may_be)
  b_may_be : Binds K d_may_be ["bound", "heaps", "taking"] []
  F_root_of : Fun K "root_of" "root_of" s_root_of a_root_of d_root_of
  g_root_of : mg "root_of" = some (.ref a_root_of)
  b_root_of : Binds K d_root_of ["number"] []
  F_lesser_of : Fun K "lesser_of" "lesser_of" s_lesser_of a_lesser_of d_lesser_of
  g_lesser_of : mg "lesser_of" = some (.ref a_lesser_of)
  b_lesser_of : Binds K d_lesser_of ["bound", "number"] []
  F_pair_of : Fun K "pair_of" "pair_of" s_pair_of a_pair_of d_pair_of
  g_pair_of : mg "pair_of" = some (.ref a_pair_of)
  b_pair_of : Binds K d_pair_of ["bound", "number"] []
  F_place_of : Fun K "place_of" "place_of" s_place_of a_place_of d_place_of
  g_place_of : mg "place_of" = some (.ref a_place_of)
  b_place_of : Binds K d_place_of ["bound", "number"] []
  F_is_lost : Fun K "is_lost" "is_lost" s_is_lost a_is_lost d_is_lost
  g_is_lost : mg "is_lost" = some (.ref a_is_lost)
  b_is_lost : Binds K d_is_lost ["bound", "heaps"] []
  F_Lost_init : Fun K "__init__" "Lost.__init__" s_Lost_init a_Lost_init d_Lost_init
  b_Lost_init : Binds K d_Lost_init ["self", "number"] []
  F_Lost_shows : Fun K "shows" "Lost.shows" s_Lost_shows a_Lost_shows d_Lost_shows
  b_Lost_shows : Binds K d_Lost_shows ["self", "bound", "heaps"] []
  F_Won_init : Fun K "__init__" "Won.__init__" s_Won_init a_Won_init d_Won_init
  b_Won_init : Binds K d_Won_init ["self", "taking"] []
  F_Won_shows : Fun K "shows" "Won.shows" s_Won_shows a_Won_shows d_Won_shows
  b_Won_shows : Binds K d_Won_shows ["self", "bound", "heaps"] []
  F_taking_of : Fun K "taking_of" "taking_of" s_taking_of a_taking_of d_taking_of
  g_taking_of : mg "taking_of" = some (.ref a_taking_of)
  b_taking_of : Binds K d_taking_of ["bound", "low", "high"] []
  F_told : Fun K "told" "told" s_told a_told d_told
  g_told : mg "told" = some (.ref a_told)
  b_told : Binds K d_told ["bound", "heaps"] []
  F__law_cell_at : Fun K "_law_cell_at" "_law_cell_at" s__law_cell_at a__law_cell_at d__law_cell_at
  g__law_cell_at : mg "_law_cell_at" = some (.ref a__law_cell_at)
  b__law_cell_at : Binds K d__law_cell_at ["_law_script", "_law_k"] []
  F__law_draw : Fun K "_law_draw" "_law_draw" s__law_draw a__law_draw d__law_draw
  g__law_draw : mg "_law_draw" = some (.ref a__law_draw)
  b__law_draw : Binds K d__law_draw ["_law_cell", "_law_k", "_law_many"] []
  F__law_number : Fun K "_law_number" "_law_number" s__law_number a__law_number d__law_number
  g__law_number : mg "_law_number" = some (.ref a__law_number)
  b__law_number : Binds K d__law_number ["_law_cell", "_law_k", "_law_limit"] []
  F__law_root : Fun K "_law_root" "_law_root" s__law_root a__law_root d__law_root
  g__law_root : mg "_law_root" = some (.ref a__law_root)
  b__law_root : Binds K d__law_root ["_law_number_here"] []
  F__law_pair : Fun K "_law_pair" "_law_pair" s__law_pair a__law_pair d__law_pair
  g__law_pair : mg "_law_pair" = some (.ref a__law_pair)
  b__law_pair : Binds K d__law_pair ["_law_by", "_law_at"] []
  F__law_lost : Fun K "_law_lost" "_law_lost" s__law_lost a__law_lost d__law_lost
  g__law_lost : mg "_law_lost" = some (.ref a__law_lost)
  b__law_lost : Binds K d__law_lost ["_law_by", "_law_both"] []
  F__law_may : Fun K "_law_may" "_law_may" s__law_may a__law_may d__law_may
  g__law_may : mg "_law_may" = some (.ref a__law_may)
  b__law_may : Binds K d__law_may ["_law_bound_here", "_law_heaps_here", "_law_taking"] []
  F__law_bound : Fun K "_law_bound" "_law_bound" s__law_bound a__law_bound d__law_bound
  g__law_bound : mg "_law_bound" = some (.ref a__law_bound)
  b__law_bound : Binds K d__law_bound ["_law_script", "_law_k"] []
  F__law_heaps : Fun K "_law_heaps" "_law_heaps" s__law_heaps a__law_heaps d__law_heaps
  g__law_heaps : mg "_law_heaps" = some (.ref a__law_heaps)
  b__law_heaps : Binds K d__law_heaps ["_law_script", "_law_k", "_law_bound_here"] []
  F__law_says : Fun K "_law_says" "_law_says" s__law_says a__law_says d__law_says
  g__law_says : mg "_law_says" = some (.ref a__law_says)
  b__law_says : Binds K d__law_says ["_law_said", "_law_due"] []
  F__law_lost_right : Fun K "_law_lost_right" "_law_lost_right" s__law_lost_right a__law_lost_right d__law_lost_right
  g__law_lost_right : mg "_law_lost_right" = some (.ref a__law_lost_right)
  b__law_lost_right : Binds K d__law_lost_right ["_law_bound_here", "_law_heaps_here", "_law_number_here"] []
  F__law_won_right : Fun K "_law_won_right" "_law_won_right" s__law_won_right a__law_won_right d__law_won_right
  g__law_won_right : mg "_law_won_right" = some (.ref a__law_won_right)
  b__law_won_right : Binds K d__law_won_right ["_law_bound_here", "_law_heaps_here", "_law_taking"] []
  F_law : Fun K "law" "law" s_law a_law d_law
  g_law : mg "law" = some (.ref a_law)
  b_law : Binds K d_law ["_law_script"] []
  n_isinstance : mg "isinstance" = none
  n_len : mg "len" = none
  n_max : mg "max" = none
  n_min : mg "min" = none
  n_abs : mg "abs" = none
  n_int : mg "int" = none
  n_bool : mg "bool" = none
  n_tuple : mg "tuple" = none
  n_range : mg "range" = none
  n_all : mg "all" = none
theorem Txt.ins_Lost {K : PySem.W.Frag} {mg : Str → Option Value} (T : Txt K mg) {H : Hp} {p dx : Addr} {fs : List (Str × V)} (e : H p = some (.ins T.a_Lost dx fs)) : TyX K H (.ref p) (.ref T.a_Lost) := .base (.ins e T.c_Lost T.ha_Lost T.hn T.htk T.hm_Lost)
theorem Txt.k_Lost_Lost {K : PySem.W.Frag} {mg : Str → Option Value} (T : Txt K mg) : PySem.W.kitOne K (.ref T.a_Lost) (.ref T.a_Lost) = some true := kit_own T.i_Lost T.ty_Lost T.su_Lost_Lost T.su_Lost_Lost
theorem Txt.k_Lost_Won {K : PySem.W.Frag} {mg : Str → Option Value} (T : Txt K mg) : PySem.W.kitOne K (.ref T.a_Lost) (.ref T.a_Won) = some false := kit_own T.i_Won T.ty_Won T.su_Lost_Won T.su_Won_Won
theorem Txt.ins_Won {K : PySem.W.Frag} {mg : Str → Option Value} (T : Txt K mg) {H : Hp} {p dx : Addr} {fs : List (Str × V)} (e : H p = some (.ins T.a_Won dx fs)) : TyX K H (.ref p) (.ref T.a_Won) := .base (.ins e T.c_Won T.ha_Won T.hn T.htk T.hm_Won)
theorem Txt.k_Won_Lost {K : PySem.W.Frag} {mg : Str → Option Value} (T : Txt K mg) : PySem.W.kitOne K (.ref T.a_Won) (.ref T.a_Lost) = some false := kit_own T.i_Lost T.ty_Lost T.su_Won_Lost T.su_Lost_Lost
theorem Txt.k_Won_Won {K : PySem.W.Frag} {mg : Str → Option Value} (T : Txt K mg) : PySem.W.kitOne K (.ref T.a_Won) (.ref T.a_Won) = some true := kit_own T.i_Won T.ty_Won T.su_Won_Won T.su_Won_Won

section
variable {P : Program} {w : World} {K : PySem.W.Frag} {mg : Str → Option Value} {base : Heap}

def sp_is_whole  : Sp := fun vs H Q E => ∃ (i : Int), vs = [.int i] ∧ Q (.bl true) H
theorem ok_is_whole (T : Txt K mg) : FnOk P w K mg base CX0 1 T.a_is_whole T.d_is_whole ["thing"] (sp_is_whole ) := by
  refine T.F_is_whole.ok sc_is_whole (fun vs H Q E h => ?_) (fun cdv A outer s H vs Q E hr h => ?_)
  · obtain ⟨_, rfl, _⟩ := h
    rfl
  · have hu := hu_of hr
    obtain ⟨i, rfl, q⟩ := h
    refine ⟨_, (pss_one (ps_ret (pe_and (pe_callB call_isi (by rfl) T.n_isinstance (by decide +kernel) (pa_cons (pv 0) (pa_cons (pe_bltn (v := .ty "int") (by rfl) T.n_int (by decide +kernel) rfl) pa_nil))) (pe_one (pe_not (pe_callB call_isi (by rfl) T.n_isinstance (by decide +kernel) (pa_cons (pv 0) (pa_cons (pe_bltn (v := .ty "bool") (by rfl) T.n_bool (by decide +kernel) rfl) pa_nil)))))))), ?_⟩
    walk_at "rd"
    exact q

def sp_is_pair  : Sp := fun vs H Q E => ∃ (p : Addr) (a b : Int), vs = [.ref p] ∧ Pr H p a b ∧ Q (.bl true) H
theorem ok_is_pair (T : Txt K mg) : FnOk P w K mg base CX0 2 T.a_is_pair T.d_is_pair ["thing"] (sp_is_pair ) := by
  refine T.F_is_pair.ok sc_is_pair (fun vs H Q E h => ?_) (fun cdv A outer s H vs Q E hr h => ?_)
  · obtain ⟨_, _, _, rfl, _⟩ := h
    rfl
  · have hu := hu_of hr
    obtain ⟨p, a, b, rfl, hp, q⟩ := h
    refine ⟨_, (pss_one (ps_ret (pe_and (pe_callB call_isi (by rfl) T.n_isinstance (by decide +kernel) (pa_cons (pv 0) (pa_cons (pe_bltn (v := .ty "tuple") (by rfl) T.n_tuple (by decide +kernel) rfl) pa_nil))) (pe_and (pe_cmpR oEq (pe_callB call_len (by rfl) T.n_len (by decide +kernel) (pa_cons (pv 0) pa_nil)) pe_int (nomark _)) (pe_and (pe_call (ok_is_whole (P := P) (w := w) (base := base) T) (hr.mono (by decide : 1 ≤ _)) (by rfl) T.g_is_whole T.F_is_whole.kp T.b_is_whole .nil pass0 (pa_cons (pe_ix ix_tup (pv 0) pe_int (fun _ _ => rfl)) pa_nil)) (pe_one (pe_call (ok_is_whole (P := P) (w := w) (base := base) T) (hr.mono (by decide : 1 ≤ _)) (by rfl) T.g_is_whole T.F_is_whole.kp T.b_is_whole .nil pass0 (pa_cons (pe_ix ix_tup (pv 0) pe_int (fun _ _ => rfl)) pa_nil)))))))), ?_⟩
    walk_at "rd"
    exact q

def sp_check_bound  : Sp := fun vs H Q E => ∃ (t : Int), vs = [.int t] ∧ 1 ≤ t ∧ Q .non H
theorem ok_check_bound (T : Txt K mg) : FnOk P w K mg base CX0 2 T.a_check_bound T.d_check_bound ["bound"] (sp_check_bound ) := by
  refine T.F_check_bound.ok sc_check_bound (fun vs H Q E h => ?_) (fun cdv A outer s H vs Q E hr h => ?_)
  · obtain ⟨_, rfl, _⟩ := h
    rfl
  · have hu := hu_of hr
    obtain ⟨t, rfl, ht, q⟩ := h
    refine ⟨_, (pss_one (ps_if (PW.pt (pw_or (pt_not (pt_val (pe_call (ok_is_whole (P := P) (w := w) (base := base) T) (hr.mono (by decide : 1 ≤ _)) (by rfl) T.g_is_whole T.F_is_whole.kp T.b_is_whole .nil pass0 (pa_cons (pv 0) pa_nil)))) (pw_or1 (pt_cmpR op_lt (pv 0) pe_int (nomark _))))) (pss_one (ps_never)) pss_nil)), ?_⟩
    walk_at "rd"
    refine ite2 (fun c => ?_) (fun c => ?_)
    · have := of_decide_eq_true c
      omega
    · exact q

def sp_check_heaps  : Sp := fun vs H Q E => ∃ (p : Addr) (x y : Int), vs = [.ref p] ∧ Pr H p x y ∧ 0 ≤ x ∧ 0 ≤ y ∧ Q .non H
theorem ok_check_heaps (T : Txt K mg) : FnOk P w K mg base CX0 3 T.a_check_heaps T.d_check_heaps ["heaps"] (sp_check_heaps ) := by
  refine T.F_check_heaps.ok sc_check_heaps (fun vs H Q E h => ?_) (fun cdv A outer s H vs Q E hr h => ?_)
  · obtain ⟨_, _, _, rfl, _⟩ := h
    rfl
  · have hu := hu_of hr
    obtain ⟨p, x, y, rfl, hp, hx, hy, q⟩ := h
    refine ⟨_, (pss_one (ps_if (PW.pt (pw_or (pt_not (pt_val (pe_call (ok_is_pair (P := P) (w := w) (base := base) T) (hr.mono (by decide : 2 ≤ _)) (by rfl) T.g_is_pair T.F_is_pair.kp T.b_is_pair .nil pass0 (pa_cons (pv 0) pa_nil)))) (pw_or1 (pt_cmpR op_lt (pe_callB (cMinP rfl hu) (by rfl) T.n_min (by decide +kernel) (pa_cons (pv 0) pa_nil)) pe_int (nomark _))))) (pss_one (ps_never)) pss_nil)), ?_⟩
    walk_at "rd"
    refine ite2 (fun c => ?_) (fun c => ?_)
    · have := of_decide_eq_true c
      omega
    · exact q

def sp_may_be  : Sp := fun vs H Q E => ∃ (t : Int) (p : Addr) (x y : Int) (r : Addr) (i j : Int), vs = [.int t, .ref p, .ref r] ∧ Pr H p x y ∧ Pr H r i j ∧ Q (.bl (decide (Legal t x y i j))) H
theorem ok_may_be (T : Txt K mg) : FnOk P w K mg base CX0 1 T.a_may_be T.d_may_be ["bound", "heaps", "taking"] (sp_may_be ) := by
  refine T.F_may_be.ok sc_may_be (fun vs H Q E h => ?_) (fun cdv A outer s H vs Q E hr h => ?_)
  · obtain ⟨_, _, _, _, _, _, _, rfl, _⟩ := h
    rfl
  · have hu := hu_of hr
    obtain ⟨t, p, x, y, r, i, j, rfl, hp, hr2, q⟩ := h
    refine ⟨_, (pss_cons (ps_if (PW.pt (pw_or (pt_cmpR op_lt (pe_callB (cMinP rfl hu) (by rfl) T.n_min (by decide +kernel) (pa_cons (pv 2) pa_nil)) pe_int (nomark _)) (pw_or (pt_cmpR oEq (pe_callB (cMaxP rfl hu) (by rfl) T.n_max (by decide +kernel) (pa_cons (pv 2) pa_nil)) pe_int (nomark _)) (pw_or (pt_cmpR op_gt (pe_ix ix_tup (pv 2) pe_int (fun _ _ => rfl)) (pe_ix ix_tup (pv 1) pe_int (fun _ _ => rfl)) (nomark _)) (pw_or1 (pt_cmpR op_gt (pe_ix ix_tup (pv 2) pe_int (fun _ _ => rfl)) (pe_ix ix_tup (pv 1) pe_int (fun _ _ => rfl)) (nomark _))))))) (pss_one (ps_ret pe_bl)) pss_nil) (pss_one (ps_ret (pe_or (pe_cmpR oEq (pe_callB (cMinP rfl hu) (by rfl) T.n_min (by decide +kernel) (pa_cons (pv 2) pa_nil)) pe_int (nomark _)) (pe_one (pe_cmpR op_lt (pe_callB call_abs (by rfl) T.n_abs (by decide +kernel) (pa_cons (pe_op op_sub (pe_ix ix_tup (pv 2) pe_int (fun _ _ => rfl)) (pe_ix ix_tup (pv 2) pe_int (fun _ _ => rfl))) pa_nil)) (pv 0) (nomark _))))))), ?_⟩
    walk_at "rd"
    refine ite2 (fun c => ?_) (fun c1 => ?_)
    · walk_at "rd"
      have c := of_decide_eq_true c
      have z : decide (Legal t x y i j) = false := decide_eq_false (by unfold Legal; omega)
      rw [z] at q
      exact q
    walk_at "rd"
    refine ite2 (fun c => ?_) (fun c2 => ?_)
    · walk_at "rd"
      have c := of_decide_eq_true c
      have z : decide (Legal t x y i j) = false := decide_eq_false (by unfold Legal; omega)
      rw [z] at q
      exact q
    walk_at "rd"
    refine ite2 (fun c => ?_) (fun c3 => ?_)
    · walk_at "rd"
      have c := of_decide_eq_true c
      have z : decide (Legal t x y i j) = false := decide_eq_false (by unfold Legal; omega)
      rw [z] at q
      exact q
    walk_at "rd"
    refine ite2 (fun c => ?_) (fun c4 => ?_)
    · walk_at "rd"
      have c := of_decide_eq_true c
      have z : decide (Legal t x y i j) = false := decide_eq_false (by unfold Legal; omega)
      rw [z] at q
      exact q
    simp only [decide_eq_true_eq] at c1 c2 c3 c4
    walk_at "rd"
    refine ite2 (fun c => ?_) (fun c => ?_)
    · have c := of_decide_eq_true c
      have z : decide (Legal t x y i j) = true := decide_eq_true (by unfold Legal; omega)
      rw [z] at q
      exact q
    · simp only [decide_eq_true_eq] at c
      walk_at "rd"
      have z : decide (Legal t x y i j) = decide ((if i - j < 0 then -(i - j) else i - j) < t) := decide_eq_decide.mpr (by unfold Legal; split <;> omega)
      rw [z] at q
      exact q

def sp_root_of  : Sp := fun vs H Q E => ∃ (n : Int), vs = [.int n] ∧ 0 ≤ n ∧ Bd 8000 n ∧ Q (.int (rt n)) H
theorem ok_root_of (T : Txt K mg) : FnOk P w K mg base CX0 1 T.a_root_of T.d_root_of ["number"] (sp_root_of ) := by
  refine T.F_root_of.ok sc_root_of (fun vs H Q E h => ?_) (fun cdv A outer s H vs Q E hr h => ?_)
  · obtain ⟨_, rfl, _⟩ := h
    rfl
  · have hu := hu_of hr
    obtain ⟨n, rfl, hn, bn, q⟩ := h
    refine ⟨_, (pss_cons (ps_if (pt_cmpR oEq (pv 0) pe_int (nomark _)) (pss_one (ps_ret pe_int)) pss_nil) (pss_cons (ps_set (i := 1) sc_root_of.nd rfl (Or.inl rfl) (pe_op op_shlW pe_int (pe_op oDiv (pe_op op_add (pe_bits (pv 0)) pe_int) pe_int))) (pss_cons (ps_while PassesOwn.never (pt_cmpR op_gt (pe_op oMul (pv 1) (pv 1)) (pv 0) (nomark _)) (pss_one (ps_set (i := 1) sc_root_of.nd rfl (Or.inl rfl) (pe_op oDiv (pe_op op_add (pv 1) (pe_op oDiv (pv 0) (pv 1))) pe_int)))) (pss_one (ps_ret (pv 1)))))), ?_⟩
    walk_at "rd"
    refine ite2 (fun c => ?_) (fun c => ?_)
    · have e := of_decide_eq_true c
      subst e
      exact q
    · have c : n ≠ 0 := fun z => c (decide_eq_true z)
      walk_at "rd"
      have hb := intBits_le bn.out
      have hn2 := bits_lt n
      obtain ⟨s1, s2⟩ := newton_start hn hn2
      generalize Builtin.Int.intBits n = b at *
      have e : ((b : Int) + 1) / 2 = (((b + 1) / 2 : Nat) : Int) := by omega
      have cs : CShl 1 (((b : Int) + 1) / 2) := by
        rw [e]
        exact shl_ok (n := 1) (by decide) (by omega)
      have bx : Bd 8020 ((1 : Int) * 2 ^ (((b : Int) + 1) / 2).toNat) := by
        have e2 : (((b : Int) + 1) / 2).toNat = (b + 1) / 2 := by omega
        rw [e2, Int.one_mul, ← pow_cast]
        refine ⟨?_⟩
        rw [Int.natAbs_natCast]
        exact Nat.pow_lt_pow_right (by decide) (by omega)
      refine ⟨cs, ?_⟩
      refine ⟨fun m σ H' => H' = H ∧ ∃ x : Int, σ = [some (.int n), some (.int x)] ∧ 0 ≤ x ∧ rt n ≤ x ∧ Bd 8020 x ∧ m = x.toNat, ⟨_, rfl, _, rfl, s1, s2, bx, rfl⟩, ?_⟩
      rintro m σ H' ⟨rfl, x, rfl, hx, hr', bx, rfl⟩
      walk_at "rd"
      refine ite2 (fun c => ?_) (fun c => ?_)
      · have c := of_decide_eq_true c
        obtain ⟨n1, n2, n3, n4⟩ := newton hn hx hr' c
        refine ⟨fun σ' H2 => H2 = H' ∧ ∃ y : Int, σ' = [some (.int n), some (.int y)] ∧ 0 ≤ y ∧ rt n ≤ y ∧ Bd 8020 y ∧ y < x, ?_, ?_⟩
        · rintro σ' H2 ⟨rfl, y, rfl, y1, y2, y3, y4⟩
          exact ⟨y.toNat, by omega, rfl, y, rfl, y1, y2, y3, rfl⟩
        · walk_at "rd"
          exact ⟨rfl, _, rfl, n2, n3, bd_le bx n2 (by omega), n4⟩
      · have e := newton_end hn hr' (fun z => c (decide_eq_true z))
        walk_at "rd"
        rw [e]
        exact q

def sp_lesser_of  : Sp := fun vs H Q E => ∃ (t n : Int), vs = [.int t, .int n] ∧ Bd 900 t ∧ Bd 900 n ∧ Q (.int (les t n)) H
theorem ok_lesser_of (T : Txt K mg) : FnOk P w K mg base CX0 2 T.a_lesser_of T.d_lesser_of ["bound", "number"] (sp_lesser_of ) := by
  refine T.F_lesser_of.ok sc_lesser_of (fun vs H Q E h => ?_) (fun cdv A outer s H vs Q E hr h => ?_)
  · obtain ⟨_, _, rfl, _⟩ := h
    rfl
  · have hu := hu_of hr
    obtain ⟨t, n, rfl, bt, bn, q⟩ := h
    refine ⟨_, (pss_one (ps_ret (pe_op oDiv (pe_op op_add (pe_op oMul (pv 1) (pe_op op_sub pe_int (pv 0))) (pe_call (ok_root_of (P := P) (w := w) (base := base) T) (hr.mono (by decide : 1 ≤ _)) (by rfl) T.g_root_of T.F_root_of.kp T.b_root_of .nil pass0 (pa_cons (pe_op oMul (pe_op oMul (pv 1) (pv 1)) (pe_op op_add (pe_op oMul (pv 0) (pv 0)) pe_int)) pa_nil))) pe_int))), ?_⟩
    walk_at "rd"
    have hd := disc_nn t n
    walk_at "rd"
    exact q

def sp_pair_of  : Sp := fun vs H Q E => ∃ (t n : Int), vs = [.int t, .int n] ∧ Bd 900 t ∧ Bd 900 n ∧ ∀ p H2, H p = none → Same H H2 → Pr H2 p (les t n) (oth t n) → Q (.ref p) H2
theorem ok_pair_of (T : Txt K mg) : FnOk P w K mg base CX0 3 T.a_pair_of T.d_pair_of ["bound", "number"] (sp_pair_of ) := by
  refine T.F_pair_of.ok sc_pair_of (fun vs H Q E h => ?_) (fun cdv A outer s H vs Q E hr h => ?_)
  · obtain ⟨_, _, rfl, _⟩ := h
    rfl
  · have hu := hu_of hr
    obtain ⟨t, n, rfl, bt, bn, q⟩ := h
    refine ⟨_, (pss_cons (ps_set (i := 2) sc_pair_of.nd rfl (Or.inl rfl) (pe_call (ok_lesser_of (P := P) (w := w) (base := base) T) (hr.mono (by decide : 2 ≤ _)) (by rfl) T.g_lesser_of T.F_lesser_of.kp T.b_lesser_of .nil pass0 (pa_cons (pv 0) (pa_cons (pv 1) pa_nil)))) (pss_one (ps_ret (pe_tupA (pa_cons (pv 2) (pa_cons (pe_op op_add (pv 2) (pe_op oMul (pv 0) (pv 1))) pa_nil)))))), ?_⟩
    walk_at "rd"
    exact fun p H2 np e hp => q p H2 np e hp

def sp_place_of  : Sp := fun vs H Q E => ∃ (t k : Int), vs = [.int t, .int k] ∧ 1 ≤ t ∧ 1 ≤ k ∧ Bd 700 t ∧ Bd 700 k ∧ Q (.int (plc t k)) H
theorem ok_place_of (T : Txt K mg) : FnOk P w K mg base CX0 3 T.a_place_of T.d_place_of ["bound", "number"] (sp_place_of ) := by
  refine T.F_place_of.ok sc_place_of (fun vs H Q E h => ?_) (fun cdv A outer s H vs Q E hr h => ?_)
  · obtain ⟨_, _, rfl, _⟩ := h
    rfl
  · have hu := hu_of hr
    obtain ⟨t, k, rfl, ht, hk, bt, bk, q⟩ := h
    refine ⟨_, (pss_cons (ps_set (i := 2) sc_place_of.nd rfl (Or.inl rfl) (pe_op op_add (pe_op oDiv (pe_op op_add (pe_call (ok_root_of (P := P) (w := w) (base := base) T) (hr.mono (by decide : 1 ≤ _)) (by rfl) T.g_root_of T.F_root_of.kp T.b_root_of .nil pass0 (pa_cons (pe_op oMul (pe_op oMul (pv 1) (pv 1)) (pe_op op_add (pe_op oMul (pv 0) (pv 0)) pe_int)) pa_nil)) (pe_op oMul (pv 1) (pe_op op_sub (pv 0) pe_int))) (pe_op oMul pe_int (pv 0))) pe_int)) (pss_cons (ps_if (pt_cmpR oEq (pe_call (ok_lesser_of (P := P) (w := w) (base := base) T) (hr.mono (by decide : 2 ≤ _)) (by rfl) T.g_lesser_of T.F_lesser_of.kp T.b_lesser_of .nil pass0 (pa_cons (pv 0) (pa_cons (pv 2) pa_nil))) (pv 1) (nomark _)) (pss_one (ps_ret (pv 2))) pss_nil) (pss_one (ps_ret (pe_op op_add (pe_op op_sub (pv 1) (pv 2)) pe_int))))), ?_⟩
    have hd := disc_nn t k
    walk_at "rd"
    have hf := fnd_spec ht hk
    have hf2 := fnd_le ht hk
    have bf : Bd 900 (fnd t k) := bd_mono (bd_le bk (by omega) hf2) (by decide)
    refine ⟨bf, ?_⟩
    walk_at "rd"
    refine ite2 (fun c => ?_) (fun c => ?_)
    · have e := of_decide_eq_true c
      walk_at "rd"
      have z : plc t k = fnd t k := if_pos e
      rw [z] at q
      exact q
    · have e : ¬ les t (fnd t k) = k := fun z => c (decide_eq_true z)
      walk_at "rd"
      have z : plc t k = k - fnd t k + 1 := if_neg e
      rw [z] at q
      exact q

def sp_is_lost  : Sp := fun vs H Q E => ∃ (t : Int) (p : Addr) (x y : Int), vs = [.int t, .ref p] ∧ Pr H p x y ∧ 1 ≤ t ∧ 0 ≤ x ∧ 0 ≤ y ∧ Bd 600 t ∧ Bd 600 x ∧ Bd 600 y ∧ ∀ H2, Same H H2 → Q (.bl (decide (IsLost t x y))) H2
theorem ok_is_lost (T : Txt K mg) : FnOk P w K mg base CX0 4 T.a_is_lost T.d_is_lost ["bound", "heaps"] (sp_is_lost ) := by
  refine T.F_is_lost.ok sc_is_lost (fun vs H Q E h => ?_) (fun cdv A outer s H vs Q E hr h => ?_)
  · obtain ⟨_, _, _, _, rfl, _⟩ := h
    rfl
  · have hu := hu_of hr
    obtain ⟨t, p, x, y, rfl, hp, ht, hx, hy, bt, bx, by_, q⟩ := h
    refine ⟨_, (pss_cons (ps_set (i := 2) sc_is_lost.nd rfl (Or.inl rfl) (pe_op op_sub (pe_callB (cMaxP rfl hu) (by rfl) T.n_max (by decide +kernel) (pa_cons (pv 1) pa_nil)) (pe_callB (cMinP rfl hu) (by rfl) T.n_min (by decide +kernel) (pa_cons (pv 1) pa_nil)))) (pss_one (ps_ret (pe_and (pe_cmpR oEq (pe_op oMod (pv 2) (pv 0)) pe_int (nomark _)) (pe_one (pe_cmpR oEq (pe_ix ix_tup (pe_call (ok_pair_of (P := P) (w := w) (base := base) T) (hr.mono (by decide : 3 ≤ _)) (by rfl) T.g_pair_of T.F_pair_of.kp T.b_pair_of .nil pass0 (pa_cons (pv 0) (pa_cons (pe_op oDiv (pv 2) (pv 0)) pa_nil))) pe_int (fun _ _ => rfl)) (pe_callB (cMinP rfl hu) (by rfl) T.n_min (by decide +kernel) (pa_cons (pv 1) pa_nil)) (nomark _))))))), ?_⟩
    have bm : Bd 602 (max x y - min x y) := bd_le (j := max x y) (bd_max bx by_) (by omega) (by omega)
    walk_at "rd"
    refine ite2 (fun c => ?_) (fun c => ?_)
    · have c := of_decide_eq_true c
      walk_at "rd"
      intro p1 H1 np1 e1 hp1
      walk_at "rd"
      have z : decide (IsLost t x y) = decide (les t ((max x y - min x y) / t) = min x y) := decide_eq_decide.mpr ⟨fun h => h.2, fun h => ⟨c, h⟩⟩
      rw [z] at q
      exact q _ (by walk_at "sm")
    · have z : decide (IsLost t x y) = false := decide_eq_false fun h => c (decide_eq_true h.1)
      rw [z] at q
      exact q _ (by walk_at "sm")

def sp_Lost_init (CC : Addr) : Sp := fun vs H Q E => ∃ (p dx : Addr) (v : V), vs = [.ref p, v] ∧ H p = some (.ins CC dx []) ∧ ∀ H2, H2 p = some (.ins CC dx [("number", v)]) → (∀ b o, b ≠ p → H b = some o → H2 b = some o) → Q .non H2
theorem ok_Lost_init (T : Txt K mg) : FnOk P w K mg base CX0 1 T.a_Lost_init T.d_Lost_init ["self", "number"] (sp_Lost_init T.a_Lost) := by
  refine T.F_Lost_init.ok sc_Lost_init (fun vs H Q E h => ?_) (fun cdv A outer s H vs Q E hr h => ?_)
  · obtain ⟨_, _, _, rfl, _⟩ := h
    rfl
  · have hu := hu_of hr
    obtain ⟨p, dx, v, rfl, hp, q⟩ := h
    refine ⟨_, (pss_one (ps_fld (pv 0) (pv 1) rfl)), ?_⟩
    walk_at "rd"
    exact ⟨T.c_Lost, T.nf_Lost_number, (by decide), q _ upd_same fun b o nb hb => by rw [upd_ne nb]; exact hb⟩

def sp_Lost_shows (CC : Addr) : Sp := fun vs H Q E => ∃ (s dx : Addr) (n t : Int) (p : Addr) (x y : Int), vs = [.ref s, .int t, .ref p] ∧ H s = some (.ins CC dx [("number", .int n)]) ∧ Pr H p x y ∧ Bd 900 t ∧ Bd 900 n ∧ ∀ H2, Same H H2 → Q (.bl (decide (0 ≤ n ∧ les t n = min x y ∧ oth t n = max x y))) H2
theorem ok_Lost_shows (T : Txt K mg) : FnOk P w K mg base CX0 4 T.a_Lost_shows T.d_Lost_shows ["self", "bound", "heaps"] (sp_Lost_shows T.a_Lost) := by
  refine T.F_Lost_shows.ok sc_Lost_shows (fun vs H Q E h => ?_) (fun cdv A outer s H vs Q E hr h => ?_)
  · obtain ⟨_, _, _, _, _, _, _, rfl, _⟩ := h
    rfl
  · have hu := hu_of hr
    obtain ⟨s', dx, n, t, p, x, y, rfl, hs, hp, bt, bn, q⟩ := h
    refine ⟨_, (pss_cons (ps_if (PW.pt (pw_or (pt_not (pt_val (pe_call (ok_is_whole (P := P) (w := w) (base := base) T) (hr.mono (by decide : 1 ≤ _)) (by rfl) T.g_is_whole T.F_is_whole.kp T.b_is_whole .nil pass0 (pa_cons (pe_fld (pv 0) rfl) pa_nil)))) (pw_or1 (pt_cmpR op_lt (pe_fld (pv 0) rfl) pe_int (nomark _))))) (pss_one (ps_ret pe_bl)) pss_nil) (pss_one (ps_ret (pe_cmpR (oEqP hr.units) (pe_call (ok_pair_of (P := P) (w := w) (base := base) T) (hr.mono (by decide : 3 ≤ _)) (by rfl) T.g_pair_of T.F_pair_of.kp T.b_pair_of .nil pass0 (pa_cons (pv 1) (pa_cons (pe_fld (pv 0) rfl) pa_nil))) (pe_tupA (pa_cons (pe_callB (cMinP rfl hu) (by rfl) T.n_min (by decide +kernel) (pa_cons (pv 2) pa_nil)) (pa_cons (pe_callB (cMaxP rfl hu) (by rfl) T.n_max (by decide +kernel) (pa_cons (pv 2) pa_nil)) pa_nil))) (nomark _))))), ?_⟩
    walk_at "rd"
    refine ite2 (fun c => ?_) (fun c => ?_)
    · have c := of_decide_eq_true c
      walk_at "rd"
      rw [decide_eq_false (fun z => by omega)] at q
      exact q _ (Same.refl _)
    · have c : ¬ n < 0 := fun z => c (decide_eq_true z)
      walk_at "rd"
      intro p1 H1 np1 e1 hp1
      walk_at "rd"
      intro p2 H2 np2 e2 hp2
      walk_at "rd"
      have z : decide (0 ≤ n ∧ les t n = min x y ∧ oth t n = max x y) = decide (les t n = min x y ∧ oth t n = max x y) := decide_eq_decide.mpr ⟨fun h => h.2, fun h => ⟨by omega, h⟩⟩
      rw [z] at q
      exact q _ (by walk_at "sm")

def sp_Won_init (CC : Addr) : Sp := fun vs H Q E => ∃ (p dx : Addr) (v : V), vs = [.ref p, v] ∧ H p = some (.ins CC dx []) ∧ ∀ H2, H2 p = some (.ins CC dx [("taking", v)]) → (∀ b o, b ≠ p → H b = some o → H2 b = some o) → Q .non H2
theorem ok_Won_init (T : Txt K mg) : FnOk P w K mg base CX0 1 T.a_Won_init T.d_Won_init ["self", "taking"] (sp_Won_init T.a_Won) := by
  refine T.F_Won_init.ok sc_Won_init (fun vs H Q E h => ?_) (fun cdv A outer s H vs Q E hr h => ?_)
  · obtain ⟨_, _, _, rfl, _⟩ := h
    rfl
  · have hu := hu_of hr
    obtain ⟨p, dx, v, rfl, hp, q⟩ := h
    refine ⟨_, (pss_one (ps_fld (pv 0) (pv 1) rfl)), ?_⟩
    walk_at "rd"
    exact ⟨T.c_Won, T.nf_Won_taking, (by decide), q _ upd_same fun b o nb hb => by rw [upd_ne nb]; exact hb⟩

def sp_Won_shows (CC : Addr) : Sp := fun vs H Q E => ∃ (s dx u : Addr) (i j t : Int) (p : Addr) (x y : Int), vs = [.ref s, .int t, .ref p] ∧ H s = some (.ins CC dx [("taking", .ref u)]) ∧ Pr H u i j ∧ Pr H p x y ∧ 1 ≤ t ∧ Bd 600 t ∧ Bd 600 x ∧ Bd 600 y ∧ ∀ H2, Same H H2 → Q (.bl (decide (Legal t x y i j ∧ IsLost t (x - i) (y - j)))) H2
theorem ok_Won_shows (T : Txt K mg) : FnOk P w K mg base CX0 5 T.a_Won_shows T.d_Won_shows ["self", "bound", "heaps"] (sp_Won_shows T.a_Won) := by
  refine T.F_Won_shows.ok sc_Won_shows (fun vs H Q E h => ?_) (fun cdv A outer s H vs Q E hr h => ?_)
  · obtain ⟨_, _, _, _, _, _, _, _, _, rfl, _⟩ := h
    rfl
  · have hu := hu_of hr
    obtain ⟨s', dx, u, i, j, t, p, x, y, rfl, hs, hu2, hp, ht, bt, bx, by_, q⟩ := h
    refine ⟨_, (pss_cons (ps_if (PW.pt (pw_or (pt_not (pt_val (pe_call (ok_is_pair (P := P) (w := w) (base := base) T) (hr.mono (by decide : 2 ≤ _)) (by rfl) T.g_is_pair T.F_is_pair.kp T.b_is_pair .nil pass0 (pa_cons (pe_fld (pv 0) rfl) pa_nil)))) (pw_or1 (pt_not (pt_val (pe_call (ok_may_be (P := P) (w := w) (base := base) T) (hr.mono (by decide : 1 ≤ _)) (by rfl) T.g_may_be T.F_may_be.kp T.b_may_be .nil pass0 (pa_cons (pv 1) (pa_cons (pv 2) (pa_cons (pe_fld (pv 0) rfl) pa_nil))))))))) (pss_one (ps_ret pe_bl)) pss_nil) (pss_one (ps_ret (pe_call (ok_is_lost (P := P) (w := w) (base := base) T) (hr.mono (by decide : 4 ≤ _)) (by rfl) T.g_is_lost T.F_is_lost.kp T.b_is_lost .nil pass0 (pa_cons (pv 1) (pa_cons (pe_tupA (pa_cons (pe_op op_sub (pe_ix ix_tup (pv 2) pe_int (fun _ _ => rfl)) (pe_ix ix_tup (pe_fld (pv 0) rfl) pe_int (fun _ _ => rfl))) (pa_cons (pe_op op_sub (pe_ix ix_tup (pv 2) pe_int (fun _ _ => rfl)) (pe_ix ix_tup (pe_fld (pv 0) rfl) pe_int (fun _ _ => rfl))) pa_nil))) pa_nil)))))), ?_⟩
    walk_at "rd"
    refine ite2 (fun c => ?_) (fun c => ?_)
    · have c : ¬ Legal t x y i j := fun z => by rw [decide_eq_true z] at c; cases c
      walk_at "rd"
      rw [decide_eq_false (fun z => c z.1)] at q
      exact q _ (Same.refl _)
    · have c : Legal t x y i j := by simpa using c
      have c2 := c
      unfold Legal at c2
      have b1 : Bd 600 (x - i) := bd_le bx (by omega) (by omega)
      have b2 : Bd 600 (y - j) := bd_le by_ (by omega) (by omega)
      walk_at "rd"
      intro p1 H1 np1 e1 hp1
      walk_at "rd"
      intro H2 e2
      walk_at "rd"
      have z : decide (Legal t x y i j ∧ IsLost t (x - i) (y - j)) = decide (IsLost t (x - i) (y - j)) := decide_eq_decide.mpr ⟨fun h => h.2, fun h => ⟨c, h⟩⟩
      rw [z] at q
      exact q _ (by walk_at "sm")

def sp_taking_of  : Sp := fun vs H Q E => ∃ (t lo hi : Int), vs = [.int t, .int lo, .int hi] ∧ 1 ≤ t ∧ 0 ≤ lo ∧ lo ≤ hi ∧ Bd 600 t ∧ Bd 600 hi ∧ ∀ p H2, H p = none → Same H H2 → Pr H2 p (tkg t lo hi).1 (tkg t lo hi).2 → Q (.ref p) H2
theorem ok_taking_of (T : Txt K mg) : FnOk P w K mg base CX0 4 T.a_taking_of T.d_taking_of ["bound", "low", "high"] (sp_taking_of ) := by
  refine T.F_taking_of.ok sc_taking_of (fun vs H Q E h => ?_) (fun cdv A outer s H vs Q E hr h => ?_)
  · obtain ⟨_, _, _, rfl, _⟩ := h
    rfl
  · have hu := hu_of hr
    obtain ⟨t, lo, hi, rfl, ht, h0, h1, bt, bh, q⟩ := h
    refine ⟨_, (pss_cons (ps_if (pt_cmpR oEq (pv 1) pe_int (nomark _)) (pss_one (ps_ret (pe_tupA (pa_cons pe_int (pa_cons (pv 2) pa_nil))))) pss_nil) (pss_cons (ps_set (i := 3) sc_taking_of.nd rfl (Or.inl rfl) (pe_call (ok_pair_of (P := P) (w := w) (base := base) T) (hr.mono (by decide : 3 ≤ _)) (by rfl) T.g_pair_of T.F_pair_of.kp T.b_pair_of .nil pass0 (pa_cons (pv 0) (pa_cons (pe_call (ok_place_of (P := P) (w := w) (base := base) T) (hr.mono (by decide : 3 ≤ _)) (by rfl) T.g_place_of T.F_place_of.kp T.b_place_of .nil pass0 (pa_cons (pv 0) (pa_cons (pv 1) pa_nil))) pa_nil)))) (pss_cons (ps_set (i := 4) sc_taking_of.nd rfl (Or.inl rfl) (pe_op op_sub (pe_op op_add (pe_ix ix_tup (pv 3) pe_int (fun _ _ => rfl)) (pe_ix ix_tup (pv 3) pe_int (fun _ _ => rfl))) (pv 1))) (pss_cons (ps_if (pt_cmpR op_lt (pv 4) (pv 2) (nomark _)) (pss_one (ps_ret (pe_tupA (pa_cons pe_int (pa_cons (pe_op op_sub (pv 2) (pv 4)) pa_nil))))) pss_nil) (pss_cons (ps_set (i := 5) sc_taking_of.nd rfl (Or.inl rfl) (pe_op oDiv (pe_op op_sub (pv 2) (pv 1)) (pv 0))) (pss_cons (ps_set (i := 6) sc_taking_of.nd rfl (Or.inl rfl) (pe_ix ix_tup (pe_call (ok_pair_of (P := P) (w := w) (base := base) T) (hr.mono (by decide : 3 ≤ _)) (by rfl) T.g_pair_of T.F_pair_of.kp T.b_pair_of .nil pass0 (pa_cons (pv 0) (pa_cons (pv 5) pa_nil))) pe_int (fun _ _ => rfl))) (pss_one (ps_ret (pe_tupA (pa_cons (pe_op op_sub (pv 1) (pv 6)) (pa_cons (pe_op op_sub (pe_op op_sub (pv 2) (pv 6)) (pe_op oMul (pv 0) (pv 5))) pa_nil))))))))))), ?_⟩
    walk_at "rd"
    refine ite2 (fun c => ?_) (fun c => ?_)
    · have c := of_decide_eq_true c
      walk_at "rd"
      have e : tkg t lo hi = (0, hi) := by unfold tkg; rw [if_pos c]
      rw [e] at q
      exact q
    · have c : ¬ lo = 0 := fun z => c (decide_eq_true z)
      have bl : Bd 600 lo := bd_le bh h0 h1
      have p1 := plc_ok ht (show 1 ≤ lo by omega)
      have p2 := plc_le ht (show 1 ≤ lo by omega)
      have bp : Bd 600 (plc t lo) := bd_le bl (by omega) p2
      walk_at "rd"
      intro p1 H1 np1 e1 hp1
      walk_at "rd"
      refine ite2 (fun c2 => ?_) (fun c2 => ?_)
      · have c2 := of_decide_eq_true c2
        walk_at "rd"
        intro p3 H3 np3 e3 hp3
        have e : tkg t lo hi = (0, hi - (les t (plc t lo) + oth t (plc t lo) - lo)) := by unfold tkg; rw [if_neg c, if_pos c2]
        rw [e] at q
        exact q _ _ (e1.free np3) (by walk_at "sm") hp3
      · have c2 : ¬ les t (plc t lo) + oth t (plc t lo) - lo < hi := fun z => c2 (decide_eq_true z)
        have bd : Bd 600 (hi - lo) := bd_le bh (by omega) (by omega)
        walk_at "rd"
        intro p2 H2 np2 e2 hp2
        walk_at "rd"
        intro p3 H3 np3 e3 hp3
        have e : tkg t lo hi = (lo - les t ((hi - lo) / t), hi - les t ((hi - lo) / t) - t * ((hi - lo) / t)) := by unfold tkg; rw [if_neg c, if_neg c2]
        rw [e] at q
        exact q _ _ (e1.free (e2.free np3)) (by walk_at "sm") hp3

def sp_told (CL CW : Addr) : Sp := fun vs H Q E => ∃ (t : Int) (p : Addr) (x y : Int), vs = [.int t, .ref p] ∧ Pr H p x y ∧ 1 ≤ t ∧ 0 ≤ x ∧ 0 ≤ y ∧ Bd 600 t ∧ Bd 600 x ∧ Bd 600 y ∧
  (∀ r dx H2, IsLost t x y → Same H H2 → H2 r = some (.ins CL dx [("number", .int ((max x y - min x y) / t))]) → Q (.ref r) H2) ∧
  (∀ r dx u H2, ¬ IsLost t x y → Same H H2 → H2 r = some (.ins CW dx [("taking", .ref u)]) → Pr H2 u (tak t x y).1 (tak t x y).2 → Q (.ref r) H2)
theorem ok_told (T : Txt K mg) : FnOk P w K mg base CX0 5 T.a_told T.d_told ["bound", "heaps"] (sp_told T.a_Lost T.a_Won) := by
  refine T.F_told.ok sc_told (fun vs H Q E h => ?_) (fun cdv A outer s H vs Q E hr h => ?_)
  · obtain ⟨_, _, _, _, rfl, _⟩ := h
    rfl
  · have hu := hu_of hr
    obtain ⟨t, p, x, y, rfl, hp, ht, hx, hy, bt, bx, by_, qL, qW⟩ := h
    refine ⟨_, (pss_cons (ps_expr (pe_call (ok_check_bound (P := P) (w := w) (base := base) T) (hr.mono (by decide : 2 ≤ _)) (by rfl) T.g_check_bound T.F_check_bound.kp T.b_check_bound .nil pass0 (pa_cons (pv 0) pa_nil))) (pss_cons (ps_expr (pe_call (ok_check_heaps (P := P) (w := w) (base := base) T) (hr.mono (by decide : 3 ≤ _)) (by rfl) T.g_check_heaps T.F_check_heaps.kp T.b_check_heaps .nil pass0 (pa_cons (pv 1) pa_nil))) (pss_cons (ps_par (i := 2) (j := 3) (by rfl) sc_told.nd rfl rfl (by decide) rfl rfl (pa_cons (pe_callB (cMinP rfl hu) (by rfl) T.n_min (by decide +kernel) (pa_cons (pv 1) pa_nil)) (pa_cons (pe_callB (cMaxP rfl hu) (by rfl) T.n_max (by decide +kernel) (pa_cons (pv 1) pa_nil)) pa_nil)) (by rfl)) (pss_cons (ps_if (pt_val (pe_call (ok_is_lost (P := P) (w := w) (base := base) T) (hr.mono (by decide : 4 ≤ _)) (by rfl) T.g_is_lost T.F_is_lost.kp T.b_is_lost .nil pass0 (pa_cons (pv 0) (pa_cons (pv 1) pa_nil)))) (pss_one (ps_ret (pe_make T.m_Lost (ok_Lost_init (P := P) (w := w) (base := base) T) (hr.mono (by decide : 2 ≤ _)) (by rfl) T.g_Lost T.b_Lost_init .nil pass0 (pa_cons (pe_op oDiv (pe_op op_sub (pv 3) (pv 2)) (pv 0)) pa_nil)))) pss_nil) (pss_cons (ps_asg (pe_call (ok_taking_of (P := P) (w := w) (base := base) T) (hr.mono (by decide : 4 ≤ _)) (by rfl) T.g_taking_of T.F_taking_of.kp T.b_taking_of .nil pass0 (pa_cons (pv 0) (pa_cons (pv 2) (pa_cons (pv 3) pa_nil)))) (pg_tup rfl (pgs_cons (pg_name (i := 4) sc_told.nd rfl (Or.inl rfl)) (pgs_cons (pg_name (i := 5) sc_told.nd rfl (Or.inl rfl)) pgs_nil)))) (pss_one (ps_ret (pe_make T.m_Won (ok_Won_init (P := P) (w := w) (base := base) T) (hr.mono (by decide : 2 ≤ _)) (by rfl) T.g_Won T.b_Won_init .nil pass0 (pa_cons (pe_ifExp (pt_cmpR op_le (pe_ix ix_tup (pv 1) pe_int (fun _ _ => rfl)) (pe_ix ix_tup (pv 1) pe_int (fun _ _ => rfl)) (nomark _)) (pe_tupA (pa_cons (pv 4) (pa_cons (pv 5) pa_nil))) (pe_tupA (pa_cons (pv 5) (pa_cons (pv 4) pa_nil)))) pa_nil))))))))), ?_⟩
    have bm : Bd 602 (max x y - min x y) := bd_le (j := max x y) (bd_max bx by_) (by omega) (by omega)
    have bM : Bd 600 (max x y) := bd_max2 bx by_
    walk_at "rd"
    intro H1 e1
    walk_at "rd"
    refine ite2 (fun c => ?_) (fun c => ?_)
    · have c := of_decide_eq_true c
      walk_at "rd"
      intro r dx nr nd ne
      refine ⟨r, dx, _, rfl, upd_same, fun H2 h2 kp => ⟨rfl, ?_⟩⟩
      have e2 : Same H1 H2 := Same.made nr nd fun b o h nb => kp b o nb h
      exact qL r dx H2 c (by walk_at "sm") h2
    · have c : ¬ IsLost t x y := fun z => c (decide_eq_true z)
      walk_at "rd"
      intro p1 H2 np1 e2 hp1
      walk_at "rd"
      refine ite2 (fun c2 => ?_) (fun c2 => ?_)
      · have c2 := of_decide_eq_true c2
        walk_at "rd"
        intro u H3 nu e3 hu3
        walk_at "rd"
        intro r dx nr nd ne
        refine ⟨r, dx, _, rfl, upd_same, fun H4 h4 kp => ⟨rfl, ?_⟩⟩
        have e4 : Same H3 H4 := Same.made nr nd fun b o h nb => kp b o nb h
        refine qW r dx u H4 c (by walk_at "sm") h4 ?_
        unfold tak
        rw [if_pos c2]
        rw [show min x y = x by omega, show max x y = y by omega] at hu3
        exact e4 _ _ hu3
      · have c2 : ¬ x ≤ y := fun z => c2 (decide_eq_true z)
        walk_at "rd"
        intro u H3 nu e3 hu3
        walk_at "rd"
        intro r dx nr nd ne
        refine ⟨r, dx, _, rfl, upd_same, fun H4 h4 kp => ⟨rfl, ?_⟩⟩
        have e4 : Same H3 H4 := Same.made nr nd fun b o h nb => kp b o nb h
        refine qW r dx u H4 c (by walk_at "sm") h4 ?_
        unfold tak
        rw [if_neg c2]
        rw [show min x y = y by omega, show max x y = x by omega] at hu3
        exact e4 _ _ hu3

def sp__law_cell_at (K : PySem.W.Frag) : Sp := fun vs H Q E => ∃ (a : Addr) (ns : List Int) (k : Int), vs = [.ref a, .int k] ∧ SqL K H a (ns.map V.int) ∧ (0 ≤ k ∧ k ≤ 200) ∧ (∀ n ∈ ns, Bd 1048577 n) ∧ ∀ c, Bd 1048577 c → Q (.int c) H
theorem ok__law_cell_at (T : Txt K mg) : FnOk P w K mg base CX0 1 T.a__law_cell_at T.d__law_cell_at ["_law_script", "_law_k"] (sp__law_cell_at K) := by
  refine T.F__law_cell_at.ok sc__law_cell_at (fun vs H Q E h => ?_) (fun cdv A outer s H vs Q E hr h => ?_)
  · obtain ⟨_, _, _, rfl, _⟩ := h
    rfl
  · have hu := hu_of hr
    obtain ⟨a, ns, k, rfl, hS, ⟨hk, hk2⟩, hb, q⟩ := h
    refine ⟨_, (pss_cons (ps_if (pt_cmpR op_lt (pv 1) (pe_callB call_len (by rfl) T.n_len (by decide +kernel) (pa_cons (pv 0) pa_nil)) (nomark _)) (pss_one (ps_ret (pe_ix ix_list (pv 0) (pv 1) (fun _ _ => rfl)))) pss_nil) (pss_one (ps_ret pe_int))), ?_⟩
    walk_at "rd"
    refine ite2 (fun c => ?_) (fun c => ?_)
    · have c := of_decide_eq_true c
      obtain ⟨j, rfl⟩ := Int.eq_ofNat_of_zero_le hk
      rw [List.length_map] at c
      have hj : j < ns.length := by omega
      walk_at "rd"
      refine ⟨_, _, _, .int ns[j], rfl, rfl, hS, atI_nat (by rw [List.getElem?_map, List.getElem?_eq_getElem hj]; rfl), ?_⟩
      exact q _ (hb _ (List.getElem_mem hj))
    · walk_at "rd"
      exact q 0 (bd_mono (bd_lit (i := 0)) (by decide))

def sp__law_draw  : Sp := fun vs H Q E => ∃ (c k m : Int), vs = [.int c, .int k, .int m] ∧ Bd 2200000 c ∧ (0 ≤ k ∧ k ≤ 1000) ∧ (1 ≤ m ∧ m ≤ 1000000) ∧ ∀ d H2, Same H H2 → 0 ≤ d → d < m → Q (.int d) H2
theorem ok__law_draw (T : Txt K mg) : FnOk P w K mg base CX0 1 T.a__law_draw T.d__law_draw ["_law_cell", "_law_k", "_law_many"] (sp__law_draw ) := by
  refine T.F__law_draw.ok sc__law_draw (fun vs H Q E h => ?_) (fun cdv A outer s H vs Q E hr h => ?_)
  · obtain ⟨_, _, _, rfl, _⟩ := h
    rfl
  · have hu := hu_of hr
    obtain ⟨c, k, m, rfl, bc, ⟨hk, hk2⟩, ⟨hm, hm2⟩, q⟩ := h
    refine ⟨_, (pss_cons (ps_set (i := 3) sc__law_draw.nd rfl (Or.inl rfl) (pe_tupA (pa_cons pe_int (pa_cons pe_int (pa_cons pe_int (pa_cons pe_int (pa_cons pe_int (pa_cons pe_int (pa_cons pe_int (pa_cons pe_int (pa_cons pe_int (pa_cons pe_int (pa_cons pe_int (pa_cons pe_int (pa_cons pe_int (pa_cons pe_int (pa_cons pe_int (pa_cons pe_int pa_nil)))))))))))))))))) (pss_one (ps_ret (pe_op oMod (pe_op oMod (pe_op op_add (pe_op oMul (pv 0) pe_int) (pe_op oMul (pv 1) pe_int)) (pe_ix ix_tup (pv 3) (pe_op oMod (pv 1) pe_int) (fun _ _ => rfl))) (pv 2))))), ?_⟩
    walk_at "rd"
    intro p H1 np e1 hp
    have bk : Bd 64 k := bd_lt hk (by omega)
    walk_at "rd"
    obtain ⟨v, hv, hv0⟩ := prime_at k
    refine ⟨_, _, _, _, rfl, rfl, SqT.of hp, hv, ?_⟩
    walk_at "rd"
    exact q _ _ e1 (Int.emod_nonneg _ (by omega)) (Int.emod_lt_of_pos _ (by omega))

def sp__law_number  : Sp := fun vs H Q E => ∃ (c k l : Int), vs = [.int c, .int k, .int l] ∧ Bd 1048577 c ∧ (0 ≤ k ∧ k ≤ 200) ∧ (1 ≤ l ∧ l ≤ 1000000) ∧ ∀ n H2, Same H H2 → 0 ≤ n → Bd 134 n → Q (.int n) H2
theorem ok__law_number (T : Txt K mg) : FnOk P w K mg base CX0 2 T.a__law_number T.d__law_number ["_law_cell", "_law_k", "_law_limit"] (sp__law_number ) := by
  refine T.F__law_number.ok sc__law_number (fun vs H Q E h => ?_) (fun cdv A outer s H vs Q E hr h => ?_)
  · obtain ⟨_, _, _, rfl, _⟩ := h
    rfl
  · have hu := hu_of hr
    obtain ⟨c, k, l, rfl, bc, ⟨hk, hk2⟩, ⟨hl, hl2⟩, q⟩ := h
    refine ⟨_, (pss_cons (ps_if (pt_cmpR op_ge (pv 0) (pe_op oP18 pe_int pe_int) (nomark _)) (pss_one (ps_ret (pe_op oMod (pe_op op_sub (pv 0) (pe_op oP18 pe_int pe_int)) (pe_op oP40 pe_int pe_int)))) pss_nil) (pss_one (ps_ret (pe_call (ok__law_draw (P := P) (w := w) (base := base) T) (hr.mono (by decide : 1 ≤ _)) (by rfl) T.g__law_draw T.F__law_draw.kp T.b__law_draw .nil pass0 (pa_cons (pe_op oMul (pe_op op_add (pv 0) (pe_op oMul pe_int (pv 1))) (pe_op op_add (pe_op op_add (pv 0) (pe_op oMul pe_int (pv 1))) pe_int)) (pa_cons (pe_op op_add (pe_op oMod (pv 1) pe_int) pe_int) (pa_cons (pv 2) pa_nil))))))), ?_⟩
    have bk : Bd 64 k := bd_lt hk (by omega)
    walk_at "rd"
    refine ite2 (fun z => ?_) (fun z => ?_)
    · walk_at "rd"
      refine q _ _ (Same.refl _) (Int.emod_nonneg _ (by omega)) (bd_lt (Int.emod_nonneg _ (by omega)) (Int.lt_trans (Int.emod_lt_of_pos _ (by decide)) (by decide)))
    · walk_at "rd"
      intro d H2 e h0 h1
      exact q _ _ e h0 (bd_lt h0 (Int.lt_of_lt_of_le h1 (Int.le_trans hl2 (by decide))))

def sp__law_root  : Sp := fun vs H Q E => ∃ (n : Int), vs = [.int n] ∧ 0 ≤ n ∧ Bd 8000 n ∧ Q (.int (rt n)) H
theorem ok__law_root (T : Txt K mg) : FnOk P w K mg base CX0 1 T.a__law_root T.d__law_root ["_law_number_here"] (sp__law_root ) := by
  refine T.F__law_root.ok sc__law_root (fun vs H Q E h => ?_) (fun cdv A outer s H vs Q E hr h => ?_)
  · obtain ⟨_, rfl, _⟩ := h
    rfl
  · have hu := hu_of hr
    obtain ⟨n, rfl, hn, bn, q⟩ := h
    refine ⟨_, (pss_cons (ps_set (i := 1) sc__law_root.nd rfl (Or.inl rfl) pe_int) (pss_cons (ps_while PassesOwn.never (pt_cmpR op_le (pe_op oMul (pv 1) (pv 1)) (pv 0) (nomark _)) (pss_one (ps_set (i := 1) sc__law_root.nd rfl (Or.inl rfl) (pe_op oMul pe_int (pv 1))))) (pss_cons (ps_while PassesOwn.never (pt_cmpR op_gt (pe_op oMul (pv 1) (pv 1)) (pv 0) (nomark _)) (pss_one (ps_set (i := 1) sc__law_root.nd rfl (Or.inl rfl) (pe_op oDiv (pe_op op_add (pv 1) (pe_op oDiv (pv 0) (pv 1))) pe_int)))) (pss_one (ps_ret (pv 1)))))), ?_⟩
    walk_at "rd"
    refine ⟨fun m σ H' => H' = H ∧ ∃ x : Int, σ = [some (.int n), some (.int x)] ∧ 1 ≤ x ∧ Bd 8011 x ∧ m = (n + 1 - x).toNat, ⟨_, rfl, _, rfl, by decide, bd_mono (bd_lit (i := 1)) (by decide), rfl⟩, ?_⟩
    rintro m σ H' ⟨rfl, x, rfl, hx, bx, rfl⟩
    walk_at "rd"
    refine ite2 (fun c => ?_) (fun c => ?_)
    · have c := of_decide_eq_true c
      have hxn : x ≤ n := by
        have : x * 1 ≤ x * x := Int.mul_le_mul_of_nonneg_left hx (by omega)
        omega
      have bx2 : Bd 8000 x := bd_le bn (by omega) hxn
      refine ⟨fun σ' H2 => H2 = H' ∧ ∃ y : Int, σ' = [some (.int n), some (.int y)] ∧ 1 ≤ y ∧ Bd 8011 y ∧ x < y, ?_, ?_⟩
      · rintro σ' H2 ⟨rfl, y, rfl, y1, y2, y3⟩
        exact ⟨(n + 1 - y).toNat, by omega, rfl, y, rfl, y1, y2, rfl⟩
      · walk_at "rd"
        exact ⟨rfl, _, rfl, by omega, bd_mono (bd_mul (show Bd 11 1024 from ⟨by decide⟩) bx2) (by decide), by omega⟩
    · have c : ¬ x * x ≤ n := fun z => c (decide_eq_true z)
      have hr0 : rt n ≤ x := by
        have h1 := rt_sq hn
        have h2 := sq_lt_imp (a := rt n) (b := x) (by omega) (by omega)
        omega
      have hx0 : 0 ≤ x := by omega
      have bx0 : Bd 8020 x := bd_mono bx (by decide)
      refine ⟨fun m σ H'' => H'' = H' ∧ ∃ x : Int, σ = [some (.int n), some (.int x)] ∧ 0 ≤ x ∧ rt n ≤ x ∧ Bd 8020 x ∧ m = x.toNat, ⟨_, rfl, _, rfl, hx0, hr0, bx0, rfl⟩, ?_⟩
      rintro m σ H3 ⟨rfl, x, rfl, hx, hr', bx, rfl⟩
      walk_at "rd"
      refine ite2 (fun c => ?_) (fun c => ?_)
      · have c := of_decide_eq_true c
        obtain ⟨n1, n2, n3, n4⟩ := newton hn hx hr' c
        refine ⟨fun σ' H2 => H2 = H3 ∧ ∃ y : Int, σ' = [some (.int n), some (.int y)] ∧ 0 ≤ y ∧ rt n ≤ y ∧ Bd 8020 y ∧ y < x, ?_, ?_⟩
        · rintro σ' H2 ⟨rfl, y, rfl, y1, y2, y3, y4⟩
          exact ⟨y.toNat, by omega, rfl, y, rfl, y1, y2, y3, rfl⟩
        · walk_at "rd"
          exact ⟨rfl, _, rfl, n2, n3, bd_le bx n2 (by omega), n4⟩
      · have e := newton_end hn hr' (fun z => c (decide_eq_true z))
        walk_at "rd"
        rw [e]
        exact q

def sp__law_pair  : Sp := fun vs H Q E => ∃ (t n : Int), vs = [.int t, .int n] ∧ Bd 900 t ∧ Bd 900 n ∧ ∀ p H2, H p = none → Same H H2 → Pr H2 p (les t n) (oth t n) → Q (.ref p) H2
theorem ok__law_pair (T : Txt K mg) : FnOk P w K mg base CX0 2 T.a__law_pair T.d__law_pair ["_law_by", "_law_at"] (sp__law_pair ) := by
  refine T.F__law_pair.ok sc__law_pair (fun vs H Q E h => ?_) (fun cdv A outer s H vs Q E hr h => ?_)
  · obtain ⟨_, _, rfl, _⟩ := h
    rfl
  · have hu := hu_of hr
    obtain ⟨t, n, rfl, bt, bn, q⟩ := h
    refine ⟨_, (pss_cons (ps_set (i := 2) sc__law_pair.nd rfl (Or.inl rfl) (pe_op oMul (pe_op oMul (pv 1) (pv 1)) (pe_op op_add (pe_op oMul (pv 0) (pv 0)) pe_int))) (pss_cons (ps_set (i := 3) sc__law_pair.nd rfl (Or.inl rfl) (pe_op oDiv (pe_op op_add (pe_op oMul (pv 1) (pe_op op_sub pe_int (pv 0))) (pe_call (ok__law_root (P := P) (w := w) (base := base) T) (hr.mono (by decide : 1 ≤ _)) (by rfl) T.g__law_root T.F__law_root.kp T.b__law_root .nil pass0 (pa_cons (pv 2) pa_nil))) pe_int)) (pss_one (ps_ret (pe_tupA (pa_cons (pv 3) (pa_cons (pe_op op_add (pv 3) (pe_op oMul (pv 0) (pv 1))) pa_nil))))))), ?_⟩
    walk_at "rd"
    have hd := disc_nn t n
    walk_at "rd"
    exact fun p H2 np e hp => q p H2 np e hp

def sp__law_lost  : Sp := fun vs H Q E => ∃ (t : Int) (p : Addr) (x y : Int), vs = [.int t, .ref p] ∧ Pr H p x y ∧ 1 ≤ t ∧ 0 ≤ x ∧ 0 ≤ y ∧ Bd 600 t ∧ Bd 600 x ∧ Bd 600 y ∧ ∀ H2, Same H H2 → Q (.bl (decide (IsLost t x y))) H2
theorem ok__law_lost (T : Txt K mg) : FnOk P w K mg base CX0 3 T.a__law_lost T.d__law_lost ["_law_by", "_law_both"] (sp__law_lost ) := by
  refine T.F__law_lost.ok sc__law_lost (fun vs H Q E h => ?_) (fun cdv A outer s H vs Q E hr h => ?_)
  · obtain ⟨_, _, _, _, rfl, _⟩ := h
    rfl
  · have hu := hu_of hr
    obtain ⟨t, p, x, y, rfl, hp, ht, hx, hy, bt, bx, by_, q⟩ := h
    refine ⟨_, (pss_cons (ps_par (i := 2) (j := 3) (by rfl) sc__law_lost.nd rfl rfl (by decide) rfl rfl (pa_cons (pe_callB (cMinP rfl hu) (by rfl) T.n_min (by decide +kernel) (pa_cons (pv 1) pa_nil)) (pa_cons (pe_callB (cMaxP rfl hu) (by rfl) T.n_max (by decide +kernel) (pa_cons (pv 1) pa_nil)) pa_nil)) (by rfl)) (pss_cons (ps_set (i := 4) sc__law_lost.nd rfl (Or.inl rfl) (pe_op op_sub (pv 3) (pv 2))) (pss_one (ps_ret (pe_and (pe_cmpR oEq (pe_op oMod (pv 4) (pv 0)) pe_int (nomark _)) (pe_one (pe_cmpR (oEqP hr.units) (pe_call (ok__law_pair (P := P) (w := w) (base := base) T) (hr.mono (by decide : 2 ≤ _)) (by rfl) T.g__law_pair T.F__law_pair.kp T.b__law_pair .nil pass0 (pa_cons (pv 0) (pa_cons (pe_op oDiv (pv 4) (pv 0)) pa_nil))) (pe_tupA (pa_cons (pv 2) (pa_cons (pv 3) pa_nil))) (nomark _)))))))), ?_⟩
    have bm : Bd 602 (max x y - min x y) := bd_le (j := max x y) (bd_max bx by_) (by omega) (by omega)
    walk_at "rd"
    refine ite2 (fun c => ?_) (fun c => ?_)
    · have c := of_decide_eq_true c
      have bq : Bd 602 ((max x y - min x y) / t) := bd_div bm (by omega)
      walk_at "rd"
      intro p1 H1 np1 e1 hp1
      walk_at "rd"
      intro p2 H2 np2 e2 hp2
      walk_at "rd"
      have z : decide (IsLost t x y) = decide (les t ((max x y - min x y) / t) = min x y ∧ oth t ((max x y - min x y) / t) = max x y) := decide_eq_decide.mpr ⟨fun h => ⟨h.2, lost_oth h⟩, fun h => ⟨c, h.1⟩⟩
      rw [z] at q
      exact q _ (by walk_at "sm")
    · have z : decide (IsLost t x y) = false := decide_eq_false fun h => c (decide_eq_true h.1)
      rw [z] at q
      exact q _ (by walk_at "sm")

def sp__law_may  : Sp := fun vs H Q E => ∃ (t : Int) (p : Addr) (x y : Int) (r : Addr) (i j : Int), vs = [.int t, .ref p, .ref r] ∧ Pr H p x y ∧ Pr H r i j ∧ Q (.bl (decide (Legal t x y i j))) H
theorem ok__law_may (T : Txt K mg) : FnOk P w K mg base CX0 1 T.a__law_may T.d__law_may ["_law_bound_here", "_law_heaps_here", "_law_taking"] (sp__law_may ) := by
  refine T.F__law_may.ok sc__law_may (fun vs H Q E h => ?_) (fun cdv A outer s H vs Q E hr h => ?_)
  · obtain ⟨_, _, _, _, _, _, _, rfl, _⟩ := h
    rfl
  · have hu := hu_of hr
    obtain ⟨t, p, x, y, r, i, j, rfl, hp, hr2, q⟩ := h
    refine ⟨_, (pss_cons (ps_if (PW.pt (pw_or (pt_cmpR op_lt (pe_callB (cMinP rfl hu) (by rfl) T.n_min (by decide +kernel) (pa_cons (pv 2) pa_nil)) pe_int (nomark _)) (pw_or (pt_cmpR oEq (pe_callB (cMaxP rfl hu) (by rfl) T.n_max (by decide +kernel) (pa_cons (pv 2) pa_nil)) pe_int (nomark _)) (pw_or (pt_cmpR op_gt (pe_ix ix_tup (pv 2) pe_int (fun _ _ => rfl)) (pe_ix ix_tup (pv 1) pe_int (fun _ _ => rfl)) (nomark _)) (pw_or1 (pt_cmpR op_gt (pe_ix ix_tup (pv 2) pe_int (fun _ _ => rfl)) (pe_ix ix_tup (pv 1) pe_int (fun _ _ => rfl)) (nomark _))))))) (pss_one (ps_ret pe_bl)) pss_nil) (pss_one (ps_ret (pe_or (pe_cmpR oEq (pe_callB (cMinP rfl hu) (by rfl) T.n_min (by decide +kernel) (pa_cons (pv 2) pa_nil)) pe_int (nomark _)) (pe_one (pe_cmpR op_lt (pe_callB call_abs (by rfl) T.n_abs (by decide +kernel) (pa_cons (pe_op op_sub (pe_ix ix_tup (pv 2) pe_int (fun _ _ => rfl)) (pe_ix ix_tup (pv 2) pe_int (fun _ _ => rfl))) pa_nil)) (pv 0) (nomark _))))))), ?_⟩
    walk_at "rd"
    refine ite2 (fun c => ?_) (fun c1 => ?_)
    · walk_at "rd"
      have c := of_decide_eq_true c
      have z : decide (Legal t x y i j) = false := decide_eq_false (by unfold Legal; omega)
      rw [z] at q
      exact q
    walk_at "rd"
    refine ite2 (fun c => ?_) (fun c2 => ?_)
    · walk_at "rd"
      have c := of_decide_eq_true c
      have z : decide (Legal t x y i j) = false := decide_eq_false (by unfold Legal; omega)
      rw [z] at q
      exact q
    walk_at "rd"
    refine ite2 (fun c => ?_) (fun c3 => ?_)
    · walk_at "rd"
      have c := of_decide_eq_true c
      have z : decide (Legal t x y i j) = false := decide_eq_false (by unfold Legal; omega)
      rw [z] at q
      exact q
    walk_at "rd"
    refine ite2 (fun c => ?_) (fun c4 => ?_)
    · walk_at "rd"
      have c := of_decide_eq_true c
      have z : decide (Legal t x y i j) = false := decide_eq_false (by unfold Legal; omega)
      rw [z] at q
      exact q
    simp only [decide_eq_true_eq] at c1 c2 c3 c4
    walk_at "rd"
    refine ite2 (fun c => ?_) (fun c => ?_)
    · have c := of_decide_eq_true c
      have z : decide (Legal t x y i j) = true := decide_eq_true (by unfold Legal; omega)
      rw [z] at q
      exact q
    · simp only [decide_eq_true_eq] at c
      walk_at "rd"
      have z : decide (Legal t x y i j) = decide ((if i - j < 0 then -(i - j) else i - j) < t) := decide_eq_decide.mpr (by unfold Legal; split <;> omega)
      rw [z] at q
      exact q

def sp__law_bound (K : PySem.W.Frag) : Sp := fun vs H Q E => ∃ (a : Addr) (ns : List Int) (k : Int), vs = [.ref a, .int k] ∧ SqL K H a (ns.map V.int) ∧ (0 ≤ k ∧ k ≤ 100) ∧ (∀ n ∈ ns, Bd 1048577 n) ∧ ∀ t H2, Same H H2 → 1 ≤ t → Bd 135 t → Q (.int t) H2
theorem ok__law_bound (T : Txt K mg) : FnOk P w K mg base CX0 3 T.a__law_bound T.d__law_bound ["_law_script", "_law_k"] (sp__law_bound K) := by
  refine T.F__law_bound.ok sc__law_bound (fun vs H Q E h => ?_) (fun cdv A outer s H vs Q E hr h => ?_)
  · obtain ⟨_, _, _, rfl, _⟩ := h
    rfl
  · have hu := hu_of hr
    obtain ⟨a, ns, k, rfl, hS, ⟨hk, hk2⟩, hb, q⟩ := h
    refine ⟨_, (pss_cons (ps_set (i := 2) sc__law_bound.nd rfl (Or.inl rfl) (pe_call (ok__law_cell_at (P := P) (w := w) (base := base) T) (hr.mono (by decide : 1 ≤ _)) (by rfl) T.g__law_cell_at T.F__law_cell_at.kp T.b__law_cell_at .nil pass0 (pa_cons (pv 0) (pa_cons (pe_op op_add (pv 1) pe_int) pa_nil)))) (pss_cons (ps_set (i := 3) sc__law_bound.nd rfl (Or.inl rfl) (pe_call (ok__law_number (P := P) (w := w) (base := base) T) (hr.mono (by decide : 2 ≤ _)) (by rfl) T.g__law_number T.F__law_number.kp T.b__law_number .nil pass0 (pa_cons (pv 2) (pa_cons (pv 1) (pa_cons pe_int pa_nil))))) (pss_one (ps_ret (pe_ix ix_tup (pe_tupA (pa_cons pe_int (pa_cons pe_int (pa_cons (pe_op op_add pe_int (pe_op oMod (pv 3) pe_int)) (pa_cons (pe_op op_add pe_int (pe_op oMod (pv 3) pe_int)) (pa_cons (pe_op op_add pe_int (pv 3)) pa_nil)))))) (pe_call (ok__law_draw (P := P) (w := w) (base := base) T) (hr.mono (by decide : 1 ≤ _)) (by rfl) T.g__law_draw T.F__law_draw.kp T.b__law_draw .nil pass0 (pa_cons (pe_op op_add (pe_op oMod (pv 2) (pe_op oP18 pe_int pe_int)) (pe_op oMul pe_int (pv 1))) (pa_cons pe_int (pa_cons pe_int pa_nil)))) (fun _ _ => rfl)))))), ?_⟩
    walk_at "rd"
    intro c bc
    walk_at "rd"
    intro n H1 e1 hn bn
    have hn9 := Int.emod_nonneg n (show (9 : Int) ≠ 0 by decide)
    have hn1 := Int.emod_nonneg n (show (1000 : Int) ≠ 0 by decide)
    have hm9 := Int.emod_lt_of_pos n (show (0 : Int) < 9 by decide)
    have hm1 := Int.emod_lt_of_pos n (show (0 : Int) < 1000 by decide)
    walk_at "rd"
    intro p H2 np e2 hp
    have bk : Bd 64 k := bd_lt hk (by omega)
    walk_at "rd"
    intro d H3 e3 h0 h1
    have hd : d = 0 ∨ d = 1 ∨ d = 2 ∨ d = 3 ∨ d = 4 := by omega
    rcases hd with rfl | rfl | rfl | rfl | rfl
    all_goals
      walk_at "ix"
      refine q _ _ (by walk_at "sm") ?_ ?_
      · first | decide | omega
      · first | exact bd_mono (bd_lit) (by decide) | exact bd_lt (by omega) (Int.lt_of_le_of_lt (show _ ≤ (1001 : Int) by omega) (by decide)) | exact bd_mono (bd_add bd_one bn) (by decide)

def sp__law_heaps (K : PySem.W.Frag) : Sp := fun vs H Q E => ∃ (a : Addr) (ns : List Int) (k t : Int), vs = [.ref a, .int k, .int t] ∧ SqL K H a (ns.map V.int) ∧ (0 ≤ k ∧ k ≤ 100) ∧ (∀ n ∈ ns, Bd 1048577 n) ∧ 1 ≤ t ∧ Bd 135 t ∧ ∀ p x y H2, Same H H2 → Pr H2 p x y → 0 ≤ x → 0 ≤ y → Bd 300 x → Bd 300 y → Q (.ref p) H2
theorem ok__law_heaps (T : Txt K mg) : FnOk P w K mg base CX0 3 T.a__law_heaps T.d__law_heaps ["_law_script", "_law_k", "_law_bound_here"] (sp__law_heaps K) := by
  refine T.F__law_heaps.ok sc__law_heaps (fun vs H Q E h => ?_) (fun cdv A outer s H vs Q E hr h => ?_)
  · obtain ⟨_, _, _, _, rfl, _⟩ := h
    rfl
  · have hu := hu_of hr
    obtain ⟨a, ns, k, t, rfl, hS, ⟨hk, hk2⟩, hb, ht, bt, q⟩ := h
    refine ⟨_, (pss_cons (ps_set (i := 3) sc__law_heaps.nd rfl (Or.inl rfl) (pe_call (ok__law_cell_at (P := P) (w := w) (base := base) T) (hr.mono (by decide : 1 ≤ _)) (by rfl) T.g__law_cell_at T.F__law_cell_at.kp T.b__law_cell_at .nil pass0 (pa_cons (pv 0) (pa_cons (pv 1) pa_nil)))) (pss_cons (ps_set (i := 4) sc__law_heaps.nd rfl (Or.inl rfl) (pe_call (ok__law_draw (P := P) (w := w) (base := base) T) (hr.mono (by decide : 1 ≤ _)) (by rfl) T.g__law_draw T.F__law_draw.kp T.b__law_draw .nil pass0 (pa_cons (pe_op op_add (pe_op oMod (pv 3) (pe_op oP18 pe_int pe_int)) (pe_op oMul pe_int (pv 1))) (pa_cons pe_int (pa_cons pe_int pa_nil))))) (pss_cons (ps_set (i := 5) sc__law_heaps.nd rfl (Or.inl rfl) (pe_ix ix_tup (pe_tupA (pa_cons pe_int (pa_cons pe_int (pa_cons pe_int pa_nil)))) (pe_call (ok__law_draw (P := P) (w := w) (base := base) T) (hr.mono (by decide : 1 ≤ _)) (by rfl) T.g__law_draw T.F__law_draw.kp T.b__law_draw .nil pass0 (pa_cons (pe_op oMod (pv 3) (pe_op oP18 pe_int pe_int)) (pa_cons pe_int (pa_cons pe_int pa_nil)))) (fun _ _ => rfl))) (pss_cons (ps_par (i := 6) (j := 7) (by rfl) sc__law_heaps.nd rfl rfl (by decide) rfl rfl (pa_cons (pe_call (ok__law_number (P := P) (w := w) (base := base) T) (hr.mono (by decide : 2 ≤ _)) (by rfl) T.g__law_number T.F__law_number.kp T.b__law_number .nil pass0 (pa_cons (pv 3) (pa_cons (pv 1) (pa_cons (pv 5) pa_nil)))) (pa_cons (pe_call (ok__law_number (P := P) (w := w) (base := base) T) (hr.mono (by decide : 2 ≤ _)) (by rfl) T.g__law_number T.F__law_number.kp T.b__law_number .nil pass0 (pa_cons (pe_call (ok__law_cell_at (P := P) (w := w) (base := base) T) (hr.mono (by decide : 1 ≤ _)) (by rfl) T.g__law_cell_at T.F__law_cell_at.kp T.b__law_cell_at .nil pass0 (pa_cons (pv 0) (pa_cons (pe_op op_add (pv 1) pe_int) pa_nil))) (pa_cons (pe_op op_add (pv 1) pe_int) (pa_cons (pv 5) pa_nil)))) pa_nil)) (by rfl)) (C8.pss_cut (ps_if (pt_cmpR op_gt (pv 4) pe_int (nomark _)) (pss_one (ps_asg (pe_call (ok__law_pair (P := P) (w := w) (base := base) T) (hr.mono (by decide : 2 ≤ _)) (by rfl) T.g__law_pair T.F__law_pair.kp T.b__law_pair .nil pass0 (pa_cons (pv 2) (pa_cons (pv 6) pa_nil))) (pg_tup rfl (pgs_cons (pg_name (i := 6) sc__law_heaps.nd rfl (Or.inl rfl)) (pgs_cons (pg_name (i := 7) sc__law_heaps.nd rfl (Or.inl rfl)) pgs_nil))))) pss_nil) (C8.pss_cut (ps_if (pt_cmpR oEq (pv 4) pe_int (nomark _)) (pss_one (ps_set (i := 7) sc__law_heaps.nd rfl (Or.inl rfl) (pe_op op_add (pv 7) pe_int))) pss_nil) (C8.pss_cut (ps_if (pt_cmpR oEq (pv 4) pe_int (nomark _)) (pss_one (ps_par (i := 6) (j := 7) (by rfl) sc__law_heaps.nd rfl rfl (by decide) rfl rfl (pa_cons (pe_op op_add (pe_op op_add (pv 6) pe_int) (pe_op oMod (pv 5) pe_int)) (pa_cons (pe_op op_add (pe_op op_add (pv 7) pe_int) (pe_op oMod (pv 5) pe_int)) pa_nil)) (by rfl))) pss_nil) (C8.pss_cut (ps_if (pt_cmpR oEq (pv 4) pe_int (nomark _)) (pss_one (ps_set (i := 6) sc__law_heaps.nd rfl (Or.inl rfl) (pe_callB (call_max2 rfl) (by rfl) T.n_max (by decide +kernel) (pa_cons pe_int (pa_cons (pe_op op_sub (pv 6) pe_int) pa_nil))))) pss_nil) (pss_one (ps_ret (pe_ifExp (pt_cmpR oEq (pe_call (ok__law_draw (P := P) (w := w) (base := base) T) (hr.mono (by decide : 1 ≤ _)) (by rfl) T.g__law_draw T.F__law_draw.kp T.b__law_draw .nil pass0 (pa_cons (pe_op op_add (pe_op oMod (pv 3) (pe_op oP18 pe_int pe_int)) (pv 1)) (pa_cons pe_int (pa_cons pe_int pa_nil)))) pe_int (nomark _)) (pe_tupA (pa_cons (pv 6) (pa_cons (pv 7) pa_nil))) (pe_tupA (pa_cons (pv 7) (pa_cons (pv 6) pa_nil)))))))))))))), ?_⟩
    have bk : Bd 64 k := bd_lt hk (by omega)
    walk_at "rd"
    intro c bc
    walk_at "rd"
    intro kd H1 e1 kd0 kd1
    walk_at "rd"
    intro p1 H2 np1 e2 hp1
    walk_at "rd"
    intro d H3 e3 d0 d1
    obtain ⟨l, hl, l1, l2⟩ : ∃ l : Int, atI [V.int 9, V.int 200, V.int 900000] d = some (V.int l) ∧ 1 ≤ l ∧ l ≤ 900000 := by
      rcases (show d = 0 ∨ d = 1 ∨ d = 2 by omega) with rfl | rfl | rfl
      · exact ⟨9, rfl, by decide⟩
      · exact ⟨200, rfl, by decide⟩
      · exact ⟨900000, rfl, by decide⟩
    refine ⟨_, _, _, _, rfl, rfl, SqT.of (by walk_at "hp"), hl, ?_⟩
    walk_at "rd"
    intro m H4 e4 hm bm
    walk_at "rd"
    intro c2 bc2
    walk_at "rd"
    intro u H5 e5 hu2 bu
    walk_at "rd"
    refine ⟨(fun σ' H' => Opq (∃ x y : Int, σ' = [some (.ref a), some (.int k), some (.int t), some (.int c), some (.int kd), some (.int l), some (.int x), some (.int y)] ∧ Same H H' ∧ 0 ≤ x ∧ 0 ≤ y ∧ Bd 280 x ∧ Bd 280 y)), ?_, ?_⟩
    · walk_at "rd"
      refine ite2 (fun z => ?_) (fun z => ?_)
      · walk_at "rd"
        intro p6 H6 np6 e6 hp6
        walk_at "rd"
        have g1 := les_nn ht hm
        have g2 := oth_nn ht hm
        have g3 := les_le ht hm
        have g4 : oth t m = les t m + t * m := rfl
        have b2 : Bd 275 (2 * m + t * m) := bd_mono (bd_add (bd_mul (show Bd 2 2 from ⟨by decide⟩) bm) (bd_mul bt bm)) (by decide)
        have g5 := Int.mul_nonneg (show 0 ≤ t by omega) hm
        exact opq_mk ⟨_, _, rfl, by walk_at "sm", g1, g2, bd_mono (bd_le b2 g1 (by omega)) (by decide), bd_mono (bd_le b2 g2 (by omega)) (by decide)⟩
      · exact opq_mk ⟨_, _, rfl, by walk_at "sm", hm, hu2, bd_mono bm (by decide), bd_mono bu (by decide)⟩
    intro σ6 H6 hH6
    obtain ⟨x, y, rfl, e6, hx, hy, bx, by_⟩ := opq_out hH6
    clear hH6
    refine ⟨(fun σ' H' => Opq (∃ x y : Int, σ' = [some (.ref a), some (.int k), some (.int t), some (.int c), some (.int kd), some (.int l), some (.int x), some (.int y)] ∧ Same H H' ∧ 0 ≤ x ∧ 0 ≤ y ∧ Bd 281 x ∧ Bd 281 y)), ?_, ?_⟩
    · walk_at "rd"
      refine ite2 (fun z => ?_) (fun z => ?_)
      · walk_at "rd"
        exact opq_mk ⟨_, _, rfl, e6, hx, by omega, bd_mono bx (by decide), bd_mono (bd_add by_ bd_one) (by decide)⟩
      · exact opq_mk ⟨_, _, rfl, e6, hx, hy, bd_mono bx (by decide), bd_mono by_ (by decide)⟩
    clear hx hy bx by_
    intro σ7 H7 hH7
    obtain ⟨x, y, rfl, e7, hx, hy, bx, by_⟩ := opq_out hH7
    clear hH7
    refine ⟨(fun σ' H' => Opq (∃ x y : Int, σ' = [some (.ref a), some (.int k), some (.int t), some (.int c), some (.int kd), some (.int l), some (.int x), some (.int y)] ∧ Same H H' ∧ 0 ≤ x ∧ 0 ≤ y ∧ Bd 285 x ∧ Bd 285 y)), ?_, ?_⟩
    · walk_at "rd"
      refine ite2 (fun z => ?_) (fun z => ?_)
      · have l7 := Int.emod_nonneg l (show (7 : Int) ≠ 0 by decide)
        have b7 : Bd 3 (l % 7) := bd_lt l7 (Int.lt_of_lt_of_le (Int.emod_lt_of_pos l (by decide)) (by decide))
        walk_at "rd"
        exact opq_mk ⟨_, _, rfl, e7, by omega, by omega, bd_mono (bd_add (bd_add bx bd_one) b7) (by decide), bd_mono (bd_add (bd_add by_ bd_one) b7) (by decide)⟩
      · exact opq_mk ⟨_, _, rfl, e7, hx, hy, bd_mono bx (by decide), bd_mono by_ (by decide)⟩
    clear hx hy bx by_
    intro σ8 H8 hH8
    obtain ⟨x, y, rfl, e8, hx, hy, bx, by_⟩ := opq_out hH8
    clear hH8
    refine ⟨(fun σ' H' => Opq (∃ x y : Int, σ' = [some (.ref a), some (.int k), some (.int t), some (.int c), some (.int kd), some (.int l), some (.int x), some (.int y)] ∧ Same H H' ∧ 0 ≤ x ∧ 0 ≤ y ∧ Bd 285 x ∧ Bd 285 y)), ?_, ?_⟩
    · walk_at "rd"
      refine ite2 (fun z => ?_) (fun z => ?_)
      · walk_at "rd"
        exact opq_mk ⟨_, _, rfl, e8, by split <;> omega, hy, bd_mono (bd_le bx (by split <;> omega) (by split <;> omega)) (by decide), bd_mono by_ (by decide)⟩
      · exact opq_mk ⟨_, _, rfl, e8, hx, hy, bd_mono bx (by decide), bd_mono by_ (by decide)⟩
    clear hx hy bx by_
    intro σ9 H9 hH9
    obtain ⟨x, y, rfl, e9, hx, hy, bx, by_⟩ := opq_out hH9
    clear hH9
    walk_at "rd"
    intro d2 H10 e10 d20 d21
    walk_at "rd"
    refine ite2 (fun z => ?_) (fun z => ?_)
    · walk_at "rd"
      intro p11 H11 np11 e11 hp11
      exact q _ _ _ _ (by walk_at "sm") hp11 hx hy (bd_mono bx (by decide)) (bd_mono by_ (by decide))
    · walk_at "rd"
      intro p11 H11 np11 e11 hp11
      exact q _ _ _ _ (by walk_at "sm") hp11 hy hx (bd_mono by_ (by decide)) (bd_mono bx (by decide))

def sp__law_says  : Sp := fun vs H Q E => ∃ (b c : Bool), vs = [.bl b, .bl c] ∧ Q (.bl (decide (b = c))) H
theorem ok__law_says (T : Txt K mg) : FnOk P w K mg base CX0 1 T.a__law_says T.d__law_says ["_law_said", "_law_due"] (sp__law_says ) := by
  refine T.F__law_says.ok sc__law_says (fun vs H Q E h => ?_) (fun cdv A outer s H vs Q E hr h => ?_)
  · obtain ⟨_, _, rfl, _⟩ := h
    rfl
  · have hu := hu_of hr
    obtain ⟨b, c, rfl, q⟩ := h
    refine ⟨_, (pss_one (ps_ret (pe_and (pe_callB call_isi (by rfl) T.n_isinstance (by decide +kernel) (pa_cons (pv 0) (pa_cons (pe_bltn (v := .ty "bool") (by rfl) T.n_bool (by decide +kernel) rfl) pa_nil))) (pe_one (pe_cmpR oEqB (pv 0) (pv 1) (nomark _)))))), ?_⟩
    walk_at "rd"
    exact q

def sp__law_lost_right  : Sp := fun vs H Q E => ∃ (t : Int) (p : Addr) (x y n : Int), vs = [.int t, .ref p, .int n] ∧ Pr H p x y ∧ Bd 140 t ∧ Bd 310 n ∧ ∀ H2, Same H H2 → Q (.bl true) H2
theorem ok__law_lost_right (T : Txt K mg) : FnOk P w K mg base CX0 5 T.a__law_lost_right T.d__law_lost_right ["_law_bound_here", "_law_heaps_here", "_law_number_here"] (sp__law_lost_right ) := by
  refine T.F__law_lost_right.ok sc__law_lost_right (fun vs H Q E h => ?_) (fun cdv A outer s H vs Q E hr h => ?_)
  · obtain ⟨_, _, _, _, _, rfl, _⟩ := h
    rfl
  · have hu := hu_of hr
    obtain ⟨t, p, x, y, n, rfl, hp, bt, bn, q⟩ := h
    refine ⟨_, (pss_cons (ps_set (i := 3) sc__law_lost_right.nd rfl (Or.inl rfl) (pe_make T.m_Lost (ok_Lost_init (P := P) (w := w) (base := base) T) (hr.mono (by decide : 2 ≤ _)) (by rfl) T.g_Lost T.b_Lost_init .nil pass0 (pa_cons (pv 2) pa_nil))) (pss_cons (ps_set (i := 4) sc__law_lost_right.nd rfl (Or.inl rfl) (pe_and (pe_cmpR op_ge (pv 2) pe_int (nomark _)) (pe_one (pe_cmpR (oEqP hr.units) (pe_call (ok__law_pair (P := P) (w := w) (base := base) T) (hr.mono (by decide : 2 ≤ _)) (by rfl) T.g__law_pair T.F__law_pair.kp T.b__law_pair .nil pass0 (pa_cons (pv 0) (pa_cons (pe_callB (call_max2 rfl) (by rfl) T.n_max (by decide +kernel) (pa_cons pe_int (pa_cons (pv 2) pa_nil))) pa_nil))) (pe_tupA (pa_cons (pe_callB (cMinP rfl hu) (by rfl) T.n_min (by decide +kernel) (pa_cons (pv 1) pa_nil)) (pa_cons (pe_callB (cMaxP rfl hu) (by rfl) T.n_max (by decide +kernel) (pa_cons (pv 1) pa_nil)) pa_nil))) (nomark _))))) (pss_one (ps_ret (pe_and (pe_cmpR oEq (pe_fld (pv 3) rfl) (pv 2) (nomark _)) (pe_one (pe_call (ok__law_says (P := P) (w := w) (base := base) T) (hr.mono (by decide : 1 ≤ _)) (by rfl) T.g__law_says T.F__law_says.kp T.b__law_says .nil pass0 (pa_cons (pe_meth (pv 3) T.c_Lost T.mt_Lost_shows (ok_Lost_shows (P := P) (w := w) (base := base) T) (hr.mono (by decide : 4 ≤ _)) T.b_Lost_shows .nil pass0 (pa_cons (pv 0) (pa_cons (pv 1) pa_nil))) (pa_cons (pv 4) pa_nil))))))))), ?_⟩
    have bmx : Bd 310 (if n > 0 then n else 0) := by
      split
      · exact bn
      · exact bd_mono (bd_lit (i := 0)) (by decide)
    walk_at "rd"
    intro r dx nr nd ne
    refine ⟨r, dx, _, rfl, upd_same, fun H1 h1 kp => ⟨rfl, ?_⟩⟩
    have e1 : Same H H1 := Same.made nr nd fun b o h nb => kp b o nb h
    walk_at "rd"
    refine ite2 (fun c => ?_) (fun c => ?_)
    · have c := of_decide_eq_true c
      have emx : (if n > 0 then n else 0) = n := by split <;> omega
      walk_at "rd"
      intro p1 H2 np1 e2 hp1
      rw [emx] at hp1
      walk_at "rd"
      intro p2 H3 np2 e3 hp2
      walk_at "rd"
      refine ite2 (fun z => ?_) (fun z => absurd (decide_eq_true rfl) z)
      walk_at "rd"
      refine ⟨look_no (by decide +kernel), ?_⟩
      walk_at "rd"
      intro H4 e4
      walk_at "rd"
      have z : decide (0 ≤ n ∧ les t n = min x y ∧ oth t n = max x y) = id (decide (les t n = min x y ∧ oth t n = max x y)) := decide_eq_decide.mpr ⟨fun h => h.2, fun h => ⟨c, h⟩⟩
      rw [decide_eq_true z]
      exact q _ (by walk_at "sm")
    · have c : ¬ 0 ≤ n := fun z => c (decide_eq_true z)
      walk_at "rd"
      refine ite2 (fun z => ?_) (fun z => absurd (decide_eq_true rfl) z)
      walk_at "rd"
      refine ⟨look_no (by decide +kernel), ?_⟩
      walk_at "rd"
      intro H4 e4
      walk_at "rd"
      rw [decide_eq_true (decide_eq_false fun h => c h.1)]
      exact q _ (by walk_at "sm")

def sp__law_won_right  : Sp := fun vs H Q E => ∃ (t : Int) (p : Addr) (x y : Int) (r : Addr) (i j : Int), vs = [.int t, .ref p, .ref r] ∧ Pr H p x y ∧ Pr H r i j ∧ 1 ≤ t ∧ 0 ≤ x ∧ 0 ≤ y ∧ Bd 140 t ∧ Bd 310 x ∧ Bd 310 y ∧ ∀ H2, Same H H2 → Q (.bl true) H2
theorem ok__law_won_right (T : Txt K mg) : FnOk P w K mg base CX0 6 T.a__law_won_right T.d__law_won_right ["_law_bound_here", "_law_heaps_here", "_law_taking"] (sp__law_won_right ) := by
  refine T.F__law_won_right.ok sc__law_won_right (fun vs H Q E h => ?_) (fun cdv A outer s H vs Q E hr h => ?_)
  · obtain ⟨_, _, _, _, _, _, _, rfl, _⟩ := h
    rfl
  · have hu := hu_of hr
    obtain ⟨t, p, x, y, r, i, j, rfl, hp, hr2, ht, hx, hy, bt, bx, by_, q⟩ := h
    refine ⟨_, (pss_cons (ps_set (i := 3) sc__law_won_right.nd rfl (Or.inl rfl) (pe_make T.m_Won (ok_Won_init (P := P) (w := w) (base := base) T) (hr.mono (by decide : 2 ≤ _)) (by rfl) T.g_Won T.b_Won_init .nil pass0 (pa_cons (pv 2) pa_nil))) (pss_cons (ps_set (i := 4) sc__law_won_right.nd rfl (Or.inl rfl) (pe_call (ok__law_may (P := P) (w := w) (base := base) T) (hr.mono (by decide : 1 ≤ _)) (by rfl) T.g__law_may T.F__law_may.kp T.b__law_may .nil pass0 (pa_cons (pv 0) (pa_cons (pv 1) (pa_cons (pv 2) pa_nil))))) (pss_cons (ps_set (i := 4) sc__law_won_right.nd rfl (Or.inl rfl) (pe_and (pv 4) (pe_one (pe_call (ok__law_lost (P := P) (w := w) (base := base) T) (hr.mono (by decide : 3 ≤ _)) (by rfl) T.g__law_lost T.F__law_lost.kp T.b__law_lost .nil pass0 (pa_cons (pv 0) (pa_cons (pe_tupA (pa_cons (pe_op op_sub (pe_ix ix_tup (pv 1) pe_int (fun _ _ => rfl)) (pe_ix ix_tup (pv 2) pe_int (fun _ _ => rfl))) (pa_cons (pe_op op_sub (pe_ix ix_tup (pv 1) pe_int (fun _ _ => rfl)) (pe_ix ix_tup (pv 2) pe_int (fun _ _ => rfl))) pa_nil))) pa_nil)))))) (pss_one (ps_ret (pe_and (pe_cmpR (oEqP hr.units) (pe_fld (pv 3) rfl) (pv 2) (nomark _)) (pe_one (pe_call (ok__law_says (P := P) (w := w) (base := base) T) (hr.mono (by decide : 1 ≤ _)) (by rfl) T.g__law_says T.F__law_says.kp T.b__law_says .nil pass0 (pa_cons (pe_meth (pv 3) T.c_Won T.mt_Won_shows (ok_Won_shows (P := P) (w := w) (base := base) T) (hr.mono (by decide : 5 ≤ _)) T.b_Won_shows .nil pass0 (pa_cons (pv 0) (pa_cons (pv 1) pa_nil))) (pa_cons (pv 4) pa_nil)))))))))), ?_⟩
    walk_at "rd"
    intro w' dx nr nd ne
    refine ⟨w', dx, _, rfl, upd_same, fun H1 h1 kp => ⟨rfl, ?_⟩⟩
    have e1 : Same H H1 := Same.made nr nd fun b o h nb => kp b o nb h
    walk_at "rd"
    refine ite2 (fun c => ?_) (fun c => ?_)
    · have c := of_decide_eq_true c
      have c2 := c
      unfold Legal at c2
      have b1 : Bd 310 (x - i) := bd_le bx (by omega) (by omega)
      have b2 : Bd 310 (y - j) := bd_le by_ (by omega) (by omega)
      walk_at "rd"
      intro p1 H2 np1 e2 hp1
      walk_at "rd"
      intro H3 e3
      walk_at "rd"
      refine ite2 (fun z => ?_) (fun z => absurd (decide_eq_true ⟨rfl, rfl⟩) z)
      walk_at "rd"
      refine ⟨look_no (by decide +kernel), ?_⟩
      walk_at "rd"
      intro H4 e4
      walk_at "rd"
      have z : decide (Legal t x y i j ∧ IsLost t (x - i) (y - j)) = decide (IsLost t (x - i) (y - j)) := decide_eq_decide.mpr ⟨fun h => h.2, fun h => ⟨c, h⟩⟩
      rw [decide_eq_true z]
      exact q _ (by walk_at "sm")
    · have c : ¬ Legal t x y i j := fun z => c (decide_eq_true z)
      walk_at "rd"
      refine ite2 (fun z => ?_) (fun z => absurd (decide_eq_true ⟨rfl, rfl⟩) z)
      walk_at "rd"
      refine ⟨look_no (by decide +kernel), ?_⟩
      walk_at "rd"
      intro H4 e4
      walk_at "rd"
      rw [decide_eq_true (decide_eq_false fun h => c h.1)]
      exact q _ (by walk_at "sm")

def sp_law (K : PySem.W.Frag) : Sp := fun vs H Q E => ∃ (a : Addr) (ns : List Int), vs = [.ref a] ∧ SqL K H a (ns.map V.int) ∧ ns.length ≤ 63 ∧ (∀ n ∈ ns, Bd 1048577 n) ∧ ∀ H', Q (.bl true) H'
set_option maxHeartbeats 8000000 in
theorem ok_law (T : Txt K mg) : FnOk P w K mg base CX0 7 T.a_law T.d_law ["_law_script"] (sp_law K) := by
  refine T.F_law.ok sc_law (fun vs H Q E h => ?_) (fun cdv A outer s H vs Q E hr h => ?_)
  · obtain ⟨_, _, rfl, _⟩ := h
    rfl
  · have hu := hu_of hr
    obtain ⟨a, ns, rfl, hS, hlen, hb, q⟩ := h
    refine ⟨_, (pss_cons (ps_set (i := 0) sc_law.nd rfl (Or.inl rfl) (pe_slice sl_list (pv 0) po_none (po_some pe_int))) (pss_cons (ps_for PassesOwn.never rfl (pi_range3 (by rfl) T.n_range (pa_cons pe_int (pa_cons (pe_callB call_len (by rfl) T.n_len (by decide +kernel) (pa_cons (pv 0) pa_nil)) (pa_cons (pe_op op_add pe_int (pe_op oDiv (pe_callB call_len (by rfl) T.n_len (by decide +kernel) (pa_cons (pv 0) pa_nil)) pe_int)) pa_nil)))) (pg_name (i := 1) sc_law.nd rfl (Or.inl rfl)) (pss_cons (ps_asg (pe_tupA (pa_cons (pe_call (ok__law_bound (P := P) (w := w) (base := base) T) (hr.mono (by decide : 3 ≤ _)) (by rfl) T.g__law_bound T.F__law_bound.kp T.b__law_bound .nil pass0 (pa_cons (pv 0) (pa_cons (pv 1) pa_nil))) (pa_cons (pe_call (ok__law_cell_at (P := P) (w := w) (base := base) T) (hr.mono (by decide : 1 ≤ _)) (by rfl) T.g__law_cell_at T.F__law_cell_at.kp T.b__law_cell_at .nil pass0 (pa_cons (pv 0) (pa_cons (pe_op op_add (pv 1) pe_int) pa_nil))) pa_nil))) (pg_tup rfl (pgs_cons (pg_name (i := 2) sc_law.nd rfl (Or.inr rfl)) (pgs_cons (pg_name (i := 3) sc_law.nd rfl (Or.inl rfl)) pgs_nil)))) (C8.pss_cut (ps_set (i := 3) sc_law.nd rfl (Or.inl rfl) (pe_ifExp (pt_cmpR op_lt (pe_callB call_abs (by rfl) T.n_abs (by decide +kernel) (pa_cons (pv 3) pa_nil)) (pe_op oP60 pe_int pe_int) (nomark _)) (pv 3) (pe_op oMod (pv 3) (pe_op oP60 pe_int pe_int)))) (pss_cons (ps_set (i := 4) sc_law.nd rfl (Or.inr rfl) (pe_call (ok__law_heaps (P := P) (w := w) (base := base) T) (hr.mono (by decide : 3 ≤ _)) (by rfl) T.g__law_heaps T.F__law_heaps.kp T.b__law_heaps .nil pass0 (pa_cons (pv 0) (pa_cons (pv 1) (pa_cons (pv 2) pa_nil))))) (C8.pss_cut (ps_par (i := 5) (j := 6) (by rfl) sc_law.nd rfl rfl (by decide) rfl rfl (pa_cons (pe_call (ok_told (P := P) (w := w) (base := base) T) (hr.mono (by decide : 5 ≤ _)) (by rfl) T.g_told T.F_told.kp T.b_told .nil pass0 (pa_cons (pv 2) (pa_cons (pv 4) pa_nil))) (pa_cons (pe_op oDiv (pe_callB call_abs (by rfl) T.n_abs (by decide +kernel) (pa_cons (pe_op op_sub (pe_ix ix_tup (pv 4) pe_int (fun _ _ => rfl)) (pe_ix ix_tup (pv 4) pe_int (fun _ _ => rfl))) pa_nil)) (pv 2)) pa_nil)) (by rfl)) (pss_cons (ps_for PassesOwn.never rfl (pi_tup (pe_tupA (pa_cons (pv 6) (pa_cons (pe_op op_add (pv 6) pe_int) (pa_cons (pe_op op_sub (pv 6) pe_int) (pa_cons (pe_un un_neg (pv 6)) (pa_cons pe_int (pa_cons (pv 3) pa_nil)))))))) (pg_name (i := 7) sc_law.nd rfl (Or.inl rfl)) (pss_one (ps_if (pt_not (pt_val (pe_call (ok__law_lost_right (P := P) (w := w) (base := base) T) (hr.mono (by decide : 5 ≤ _)) (by rfl) T.g__law_lost_right T.F__law_lost_right.kp T.b__law_lost_right .nil pass0 (pa_cons (pv 2) (pa_cons (pv 4) (pa_cons (pv 7) pa_nil)))))) (pss_one (ps_ret pe_bl)) pss_nil))) (C8.pss_cut (ps_set (i := 8) sc_law.nd rfl (Or.inl rfl) (pe_ifExp (pt_val (pe_callB call_isi (by rfl) T.n_isinstance (by decide +kernel) (pa_cons (pv 5) (pa_cons (pe_glob (v := .ref T.a_Won) (by rfl) T.g_Won rfl) pa_nil)))) (pe_fld (pv 5) rfl) (pe_tupA (pa_cons (pe_ix ix_tup (pv 4) pe_int (fun _ _ => rfl)) (pa_cons (pe_ix ix_tup (pv 4) pe_int (fun _ _ => rfl)) pa_nil))))) (pss_cons (ps_asg (pv 8) (pg_tup rfl (pgs_cons (pg_name (i := 9) sc_law.nd rfl (Or.inl rfl)) (pgs_cons (pg_name (i := 10) sc_law.nd rfl (Or.inl rfl)) pgs_nil)))) (pss_cons (ps_set (i := 11) sc_law.nd rfl (Or.inl rfl) (pe_lstA (pa_cons (pv 8) (pa_cons (pe_revP (pv 8)) (pa_cons (pe_tupA (pa_cons (pe_op op_add (pv 9) pe_int) (pa_cons (pv 10) pa_nil))) (pa_cons (pe_tupA (pa_cons (pv 9) (pa_cons (pe_op op_add (pv 10) pe_int) pa_nil))) (pa_cons (pe_tupA (pa_cons (pe_op op_sub (pv 9) pe_int) (pa_cons (pv 10) pa_nil))) (pa_cons (pe_tupA (pa_cons (pv 9) (pa_cons (pe_op op_sub (pv 10) pe_int) pa_nil))) pa_nil)))))))) (pss_cons (ps_set (i := 11) sc_law.nd rfl (Or.inl rfl) (pe_op oCat (pv 11) (pe_lstA (pa_cons (pe_tupA (pa_cons pe_int (pa_cons pe_int pa_nil))) (pa_cons (pv 4) (pa_cons (pe_tupA (pa_cons (pe_un un_neg (pv 9)) (pa_cons (pv 10) pa_nil))) (pa_cons (pe_tupA (pa_cons (pv 3) (pa_cons (pv 10) pa_nil))) (pa_cons (pe_tupA (pa_cons (pe_op op_add (pv 9) pe_int) (pa_cons (pe_op op_add (pv 10) pe_int) pa_nil))) (pa_cons (pe_tupA (pa_cons (pe_op op_add (pe_ix ix_tup (pv 4) pe_int (fun _ _ => rfl)) pe_int) (pa_cons (pe_ix ix_tup (pv 4) pe_int (fun _ _ => rfl)) pa_nil))) pa_nil))))))))) (pss_one (ps_if (pt_not (pt_val (pe_callB (cr_all rfl) (by rfl) T.n_all (by decide +kernel) (pa_cons (pe_lc (own := [("_law_one", 15)]) (g := gName 15) (tt := tYes) rfl sc_law.nd (pi_list (pv 11)) (blkOk_by (own := [("_law_one", 15)]) (N := ["_law_script", "_law_k", "_law_bound_here", "_law_cell", "_law_heaps_here", "_law_found", "_law_apart", "_law_number_here", "_law_taking", "_law_mine", "_law_theirs", "_law_some", "_law_good", "_law_bad", "_law_said", "_law_one"]) (sc := defScope s_law) (by decide +kernel)) (fun _ _ _ _ _ => pg_name (i := 15) sc_law.nd rfl (Or.inl rfl)) (fun _ _ _ _ _ => pts_nil) (fun _ _ _ _ _ => (pe_call (ok__law_won_right (P := P) (w := w) (base := base) T) (hr.mono (by decide : 6 ≤ _)) (by rfl) T.g__law_won_right T.F__law_won_right.kp T.b__law_won_right .nil pass0 (pa_cons (pv 2) (pa_cons (pv 4) (pa_cons (pv 15) pa_nil)))))) pa_nil)))) (pss_one (ps_ret pe_bl)) pss_nil)))))))))))) (pss_cons (ps_set (i := 12) sc_law.nd rfl (Or.inl rfl) (pe_lstA (pa_cons (pe_meth (pe_make T.m_Lost (ok_Lost_init (P := P) (w := w) (base := base) T) (hr.mono (by decide : 2 ≤ _)) (by rfl) T.g_Lost T.b_Lost_init .nil pass0 (pa_cons pe_int pa_nil)) T.c_Lost T.mt_Lost_shows (ok_Lost_shows (P := P) (w := w) (base := base) T) (hr.mono (by decide : 4 ≤ _)) T.b_Lost_shows .nil pass0 (pa_cons pe_int (pa_cons (pe_tupA (pa_cons pe_int (pa_cons pe_int pa_nil))) pa_nil))) (pa_cons (pe_meth (pe_make T.m_Won (ok_Won_init (P := P) (w := w) (base := base) T) (hr.mono (by decide : 2 ≤ _)) (by rfl) T.g_Won T.b_Won_init .nil pass0 (pa_cons (pe_tupA (pa_cons pe_int (pa_cons pe_int pa_nil))) pa_nil)) T.c_Won T.mt_Won_shows (ok_Won_shows (P := P) (w := w) (base := base) T) (hr.mono (by decide : 5 ≤ _)) T.b_Won_shows .nil pass0 (pa_cons pe_int (pa_cons (pe_tupA (pa_cons pe_int (pa_cons pe_int pa_nil))) pa_nil))) (pa_cons (pe_meth (pe_make T.m_Won (ok_Won_init (P := P) (w := w) (base := base) T) (hr.mono (by decide : 2 ≤ _)) (by rfl) T.g_Won T.b_Won_init .nil pass0 (pa_cons (pe_tupA (pa_cons pe_int (pa_cons pe_int pa_nil))) pa_nil)) T.c_Won T.mt_Won_shows (ok_Won_shows (P := P) (w := w) (base := base) T) (hr.mono (by decide : 5 ≤ _)) T.b_Won_shows .nil pass0 (pa_cons pe_int (pa_cons (pe_tupA (pa_cons pe_int (pa_cons pe_int pa_nil))) pa_nil))) pa_nil))))) (pss_cons (ps_expr (pe_bm PySem.F.plainAttrs_list PySem.F.slot_list_append PySem.F.type_list_append mt_append (pv 12) (pa_cons (pe_meth (pe_make T.m_Won (ok_Won_init (P := P) (w := w) (base := base) T) (hr.mono (by decide : 2 ≤ _)) (by rfl) T.g_Won T.b_Won_init .nil pass0 (pa_cons (pe_tupA (pa_cons pe_int (pa_cons pe_int pa_nil))) pa_nil)) T.c_Won T.mt_Won_shows (ok_Won_shows (P := P) (w := w) (base := base) T) (hr.mono (by decide : 5 ≤ _)) T.b_Won_shows .nil pass0 (pa_cons pe_int (pa_cons (pe_tupA (pa_cons pe_int (pa_cons pe_int pa_nil))) pa_nil))) pa_nil))) (pss_cons (ps_set (i := 13) sc_law.nd rfl (Or.inl rfl) (pe_lstA (pa_cons (pe_meth (pe_make T.m_Lost (ok_Lost_init (P := P) (w := w) (base := base) T) (hr.mono (by decide : 2 ≤ _)) (by rfl) T.g_Lost T.b_Lost_init .nil pass0 (pa_cons (pe_un un_neg pe_int) pa_nil)) T.c_Lost T.mt_Lost_shows (ok_Lost_shows (P := P) (w := w) (base := base) T) (hr.mono (by decide : 4 ≤ _)) T.b_Lost_shows .nil pass0 (pa_cons pe_int (pa_cons (pe_tupA (pa_cons pe_int (pa_cons pe_int pa_nil))) pa_nil))) (pa_cons (pe_meth (pe_make T.m_Lost (ok_Lost_init (P := P) (w := w) (base := base) T) (hr.mono (by decide : 2 ≤ _)) (by rfl) T.g_Lost T.b_Lost_init .nil pass0 (pa_cons pe_int pa_nil)) T.c_Lost T.mt_Lost_shows (ok_Lost_shows (P := P) (w := w) (base := base) T) (hr.mono (by decide : 4 ≤ _)) T.b_Lost_shows .nil pass0 (pa_cons pe_int (pa_cons (pe_tupA (pa_cons pe_int (pa_cons pe_int pa_nil))) pa_nil))) (pa_cons (pe_meth (pe_make T.m_Won (ok_Won_init (P := P) (w := w) (base := base) T) (hr.mono (by decide : 2 ≤ _)) (by rfl) T.g_Won T.b_Won_init .nil pass0 (pa_cons (pe_tupA (pa_cons pe_int (pa_cons pe_int pa_nil))) pa_nil)) T.c_Won T.mt_Won_shows (ok_Won_shows (P := P) (w := w) (base := base) T) (hr.mono (by decide : 5 ≤ _)) T.b_Won_shows .nil pass0 (pa_cons pe_int (pa_cons (pe_tupA (pa_cons pe_int (pa_cons pe_int pa_nil))) pa_nil))) pa_nil))))) (pss_cons (ps_expr (pe_bm PySem.F.plainAttrs_list PySem.F.slot_list_append PySem.F.type_list_append mt_append (pv 13) (pa_cons (pe_meth (pe_make T.m_Won (ok_Won_init (P := P) (w := w) (base := base) T) (hr.mono (by decide : 2 ≤ _)) (by rfl) T.g_Won T.b_Won_init .nil pass0 (pa_cons (pe_tupA (pa_cons pe_int (pa_cons pe_int pa_nil))) pa_nil)) T.c_Won T.mt_Won_shows (ok_Won_shows (P := P) (w := w) (base := base) T) (hr.mono (by decide : 5 ≤ _)) T.b_Won_shows .nil pass0 (pa_cons pe_int (pa_cons (pe_tupA (pa_cons pe_int (pa_cons pe_int pa_nil))) pa_nil))) pa_nil))) (pss_cons (ps_set (i := 13) sc_law.nd rfl (Or.inl rfl) (pe_op oCat (pv 13) (pe_lstA (pa_cons (pe_meth (pe_make T.m_Won (ok_Won_init (P := P) (w := w) (base := base) T) (hr.mono (by decide : 2 ≤ _)) (by rfl) T.g_Won T.b_Won_init .nil pass0 (pa_cons (pe_tupA (pa_cons pe_int (pa_cons pe_int pa_nil))) pa_nil)) T.c_Won T.mt_Won_shows (ok_Won_shows (P := P) (w := w) (base := base) T) (hr.mono (by decide : 5 ≤ _)) T.b_Won_shows .nil pass0 (pa_cons pe_int (pa_cons (pe_tupA (pa_cons pe_int (pa_cons pe_int pa_nil))) pa_nil))) (pa_cons (pe_meth (pe_make T.m_Won (ok_Won_init (P := P) (w := w) (base := base) T) (hr.mono (by decide : 2 ≤ _)) (by rfl) T.g_Won T.b_Won_init .nil pass0 (pa_cons (pe_tupA (pa_cons pe_int (pa_cons (pe_un un_neg pe_int) pa_nil))) pa_nil)) T.c_Won T.mt_Won_shows (ok_Won_shows (P := P) (w := w) (base := base) T) (hr.mono (by decide : 5 ≤ _)) T.b_Won_shows .nil pass0 (pa_cons pe_int (pa_cons (pe_tupA (pa_cons pe_int (pa_cons pe_int pa_nil))) pa_nil))) (pa_cons (pe_meth (pe_make T.m_Won (ok_Won_init (P := P) (w := w) (base := base) T) (hr.mono (by decide : 2 ≤ _)) (by rfl) T.g_Won T.b_Won_init .nil pass0 (pa_cons (pe_tupA (pa_cons pe_int (pa_cons pe_int pa_nil))) pa_nil)) T.c_Won T.mt_Won_shows (ok_Won_shows (P := P) (w := w) (base := base) T) (hr.mono (by decide : 5 ≤ _)) T.b_Won_shows .nil pass0 (pa_cons pe_int (pa_cons (pe_tupA (pa_cons pe_int (pa_cons pe_int pa_nil))) pa_nil))) pa_nil)))))) (pss_one (ps_ret (pe_and (pe_callB (cr_all rfl) (by rfl) T.n_all (by decide +kernel) (pa_cons (pe_lc (own := [("_law_said", 14)]) (g := gName 14) (tt := tYes) rfl sc_law.nd (pi_list (pv 12)) (blkOk_by (own := [("_law_said", 14)]) (N := ["_law_script", "_law_k", "_law_bound_here", "_law_cell", "_law_heaps_here", "_law_found", "_law_apart", "_law_number_here", "_law_taking", "_law_mine", "_law_theirs", "_law_some", "_law_good", "_law_bad", "_law_said", "_law_one"]) (sc := defScope s_law) (by decide +kernel)) (fun _ _ _ _ _ => pg_name (i := 14) sc_law.nd rfl (Or.inl rfl)) (fun _ _ _ _ _ => pts_nil) (fun _ _ _ _ _ => (pe_call (ok__law_says (P := P) (w := w) (base := base) T) (hr.mono (by decide : 1 ≤ _)) (by rfl) T.g__law_says T.F__law_says.kp T.b__law_says .nil pass0 (pa_cons (pv 14) (pa_cons pe_bl pa_nil))))) pa_nil)) (pe_one (pe_callB (cr_all rfl) (by rfl) T.n_all (by decide +kernel) (pa_cons (pe_lc (own := [("_law_said", 14)]) (g := gName 14) (tt := tYes) rfl sc_law.nd (pi_list (pv 13)) (blkOk_by (own := [("_law_said", 14)]) (N := ["_law_script", "_law_k", "_law_bound_here", "_law_cell", "_law_heaps_here", "_law_found", "_law_apart", "_law_number_here", "_law_taking", "_law_mine", "_law_theirs", "_law_some", "_law_good", "_law_bad", "_law_said", "_law_one"]) (sc := defScope s_law) (by decide +kernel)) (fun _ _ _ _ _ => pg_name (i := 14) sc_law.nd rfl (Or.inl rfl)) (fun _ _ _ _ _ => pts_nil) (fun _ _ _ _ _ => (pe_call (ok__law_says (P := P) (w := w) (base := base) T) (hr.mono (by decide : 1 ≤ _)) (by rfl) T.g__law_says T.F__law_says.kp T.b__law_says .nil pass0 (pa_cons (pv 14) (pa_cons pe_bl pa_nil))))) pa_nil))))))))))))), ?_⟩
    walk_at "rd"
    intro p np
    rw [cut63 hlen]
    have e1 : Same H (upd H p (.lst (ns.map V.int))) := Same.new np
    have hp1 : (upd H p (.lst (ns.map V.int))) p = some (.lst (ns.map V.int)) := upd_same
    generalize upd H p (.lst (ns.map V.int)) = H1 at *
    have hS1 : SqL K H1 p (ns.map V.int) := SqL.of hp1
    have hlen2 : (ns.map V.int).length ≤ 63 := by rw [List.length_map]; exact hlen
    walk_at "rd"
    refine ⟨_, _, _, _, rfl, rg_ok hlen2, for_rangeC (fun i σ H' => Opq (∃ (y1 y2 y3 y4 y5 y6 y7 y8 y9 y10 y11 y12 y13 y14 y15 : Option V), σ = [some (.ref p), y1, y2, y3, y4, y5, y6, y7, y8, y9, y10, y11, y12, y13, y14, y15] ∧ Same H1 H')) (opq_mk ⟨_, _, _, _, _, _, _, _, _, _, _, _, _, _, _,  rfl, Same.refl _⟩) ?_ ?_⟩
    · intro i σ H2 hi h
      obtain ⟨y1, y2, y3, y4, y5, y6, y7, y8, y9, y10, y11, y12, y13, y14, y15, rfl, e2⟩ := opq_out h
      clear h
      obtain ⟨hk, hk2⟩ := rg_at hlen2 hi
      generalize (0 : Int) + (i : Int) * (1 + ((ns.map V.int).length : Int) / 5) = k at *
      have hS2 : SqL K H2 p (ns.map V.int) := e2.seq hS1
      have bk : Bd 64 k := bd_lt hk (by omega)
      walk_at "rd"
    
      clear e1 hS hp1
      intro t H3 e3 ht bt
      walk_at "rd"
      intro c0 bc0
      walk_at "rd"
      intro pA HA npA eA hpA
      walk_at "rd"
      refine ⟨(fun σ' H' => Opq (∃ c : Int, σ' = [some (.ref p), some (.int k), some (.int t), some (.int c), y4, y5, y6, y7, y8, y9, y10, y11, y12, y13, y14, y15] ∧ Same HA H' ∧ Bd 210 c)), ?_, ?_⟩
      · walk_at "rd"
        refine ite2 (fun z => ?_) (fun z => ?_)
        · have z := of_decide_eq_true z
          walk_at "rd"
          exact opq_mk ⟨_, rfl, Same.refl _, ⟨Nat.lt_of_lt_of_le (m := 1000000000000000000000000000000000000000000000000000000000000) (by split at z <;> omega) (by decide)⟩⟩
        · walk_at "rd"
          exact opq_mk ⟨_, rfl, Same.refl _, bd_lt (Int.emod_nonneg _ (by decide)) (Int.lt_trans (Int.emod_lt_of_pos _ (by decide)) (by decide))⟩
      intro σ4 H4 h
      obtain ⟨c, rfl, e4, bc⟩ := opq_out h
      clear h
      walk_at "rd"
      refine ⟨_, _, _, _, rfl, (show SqL _ _ _ _ by walk_at "sq"), ?_⟩
      walk_at "rd"
      intro p2 x y H5 e5 hp2 hx hy bx by_
      have bm : Bd 300 (max x y) := bd_max2 bx by_
      have tb := tak_bd ht hx hy
      have ba : Bd 301 (if x - y < 0 then -(x - y) else x - y) := by
        split
        · exact bd_mono (bd_neg (bd_sub bx by_)) (by decide)
        · exact bd_mono (bd_sub bx by_) (by decide)
      walk_at "rd"
      refine ⟨(fun σ' H' => Opq (∃ (f : Addr) (e : Int), σ' = [some (.ref p), some (.int k), some (.int t), some (.int c), some (.ref p2), some (.ref f), some (.int e), y7, y8, y9, y10, y11, y12, y13, y14, y15] ∧ Same H5 H' ∧ Bd 301 e ∧ ((∃ dx n, H' f = some (.ins T.a_Lost dx [("number", .int n)])) ∨ ∃ dx u i j, H' f = some (.ins T.a_Won dx [("taking", .ref u)]) ∧ Pr H' u i j ∧ Bd 301 i ∧ Bd 301 j))), ?_, ?_⟩
      · walk_at "rd"
        refine ⟨fun r dx H6 _ e6 hr6 => ?_, fun r dx u H6 _ e6 hr6 hu6 => ?_⟩
        · walk_at "rd"
          exact opq_mk ⟨_, _, rfl, e6, bd_div ba (by omega), .inl ⟨dx, _, hr6⟩⟩
        · walk_at "rd"
          exact opq_mk ⟨_, _, rfl, e6, bd_div ba (by omega), .inr ⟨dx, u, _, _, hr6, hu6, bd_of bm tb.1 tb.2.1, bd_of bm tb.2.2.1 tb.2.2.2⟩⟩
      intro σ6 H6 h
      obtain ⟨f, e, rfl, e6, be, hf⟩ := opq_out h
      clear h
      walk_at "rd"
      intro p3 H7 np3 e7 hp3
      walk_at "rd"
      refine ⟨⟨_, SqT.of hp3⟩, for_tup (xs := [.int e, .int (e + 1), .int (e - 1), .int (-e), .int 0, .int c]) (fun i σ H' => Opq (∃ z7 : Option V, σ = [some (.ref p), some (.int k), some (.int t), some (.int c), some (.ref p2), some (.ref f), some (.int e), z7, y8, y9, y10, y11, y12, y13, y14, y15] ∧ Same H7 H')) (opq_mk ⟨_, rfl, Same.refl _⟩) (fun i σ H' _ h => by obtain ⟨_, _, e⟩ := opq_out h; exact SqT.of (e _ _ hp3)) ?_ ?_⟩
      · intro j z σ H8 hz h
        obtain ⟨z7, rfl, e8⟩ := opq_out h
        clear h
        have hz' : ∃ n : Int, z = .int n ∧ Bd 310 n := by
          have hm := List.mem_of_getElem? hz
          simp only [List.mem_cons, List.not_mem_nil, or_false] at hm
          rcases hm with rfl | rfl | rfl | rfl | rfl | rfl
          · exact ⟨_, rfl, bd_mono be (by decide)⟩
          · exact ⟨_, rfl, bd_mono (bd_add be bd_one) (by decide)⟩
          · exact ⟨_, rfl, bd_mono (bd_sub be bd_one) (by decide)⟩
          · exact ⟨_, rfl, bd_mono (bd_neg be) (by decide)⟩
          · exact ⟨_, rfl, bd_mono (bd_lit (i := 0)) (by decide)⟩
          · exact ⟨_, rfl, bd_mono bc (by decide)⟩
        obtain ⟨n, rfl, bn⟩ := hz'
        walk_at "rd"
        intro H9 e9
        walk_at "rd"
        exact opq_mk ⟨_, rfl, by walk_at "sm"⟩
      intro σ8 H8 h
      obtain ⟨z7, rfl, e8⟩ := opq_out h
      clear h
      walk_at "rd"
      refine ⟨(fun σ' H' => Opq (∃ (r : Addr) (i j : Int), σ' = [some (.ref p), some (.int k), some (.int t), some (.int c), some (.ref p2), some (.ref f), some (.int e), z7, some (.ref r), y9, y10, y11, y12, y13, y14, y15] ∧ Same H8 H' ∧ Pr H' r i j ∧ Bd 301 i ∧ Bd 301 j)), ?_, ?_⟩
      · rcases hf with ⟨dx, n, hf⟩ | ⟨dx, u, i, j, hf, hu6, bi, bj⟩
        · walk_at "rd"
          intro p9 H9 np9 e9 hp9
          walk_at "rd"
          exact opq_mk ⟨_, _, _, rfl, by walk_at "sm", hp9, bd_mono bx (by decide), bd_mono by_ (by decide)⟩
        · walk_at "rd"
          exact opq_mk ⟨_, _, _, rfl, Same.refl _, by walk_at "hp", bi, bj⟩
      clear hf
      intro σ9 H9 h
      obtain ⟨r, i, j, rfl, e9, hr9, bi, bj⟩ := opq_out h
      clear h
      walk_at "rd"
      intro p10 H10 np10 e10 hp10
      walk_at "rd"
      intro p11 H11 np11 e11 hp11
      walk_at "rd"
      intro p12 H12 np12 e12 hp12
      walk_at "rd"
      intro p13 H13 np13 e13 hp13
      walk_at "rd"
      intro p14 H14 np14 e14 hp14
      walk_at "rd"
      intro l1 H15 nl1 e15 hl1
      walk_at "rd"
      intro p16 H16 np16 e16 hp16
      walk_at "rd"
      intro p17 H17 np17 e17 hp17
      walk_at "rd"
      intro p18 H18 np18 e18 hp18
      walk_at "rd"
      intro p19 H19 np19 e19 hp19
      walk_at "rd"
      intro p20 H20 np20 e20 hp20
      walk_at "rd"
      intro l2 H21 nl2 e21 hl2
      walk_at "rd"
      refine ⟨_, _, _, _, rfl, rfl, (show _ = _ by walk_at "hp"), hl2, Nat.le_of_ble_eq_true rfl, fun l3 H22 nl3 e22 hl3 => ?_⟩
      have hh : Pr H22 p2 x y := by walk_at "hp"
      have hxs : ∀ z ∈ ([V.ref r, V.ref p10, V.ref p11, V.ref p12, V.ref p13, V.ref p14] ++ [V.ref p16, V.ref p2, V.ref p17, V.ref p18, V.ref p19, V.ref p20]), ∃ (r' : Addr) (i' j' : Int), z = .ref r' ∧ Pr H22 r' i' j' := by
        intro z hz
        simp only [List.cons_append, List.nil_append, List.mem_cons, List.not_mem_nil, or_false] at hz
        rcases hz with rfl | rfl | rfl | rfl | rfl | rfl | rfl | rfl | rfl | rfl | rfl | rfl
        all_goals exact ⟨_, _, _, rfl, by walk_at "hp"⟩
      have e9' : Same H1 H22 := by walk_at "sm"
      walk_at "rd"
      refine ⟨⟨_, SqL.of hl3⟩, fun D nD => lc_true nD (SqL.of hl3) (Nat.le_of_ble_eq_true rfl) (fun _ => rfl) (fun z H23 Q' hz e23 kk => ?_) (fun H23 e23 hD => ?_)⟩
      · obtain ⟨r', i', j', rfl, hr'⟩ := hxs z hz
        have hh' : Pr H23 p2 x y := e23 _ _ hh
        have hr2 : Pr H23 r' i' j' := e23 _ _ hr'
        refine ⟨_, rfl, _, rfl, _, rfl, ?_⟩
        refine ⟨_, _, _, _, _, _, _, rfl, hh', hr2, ht, hx, hy, bd_mono bt (by decide), bd_mono bx (by decide), bd_mono by_ (by decide), kk⟩
      · refine ⟨_, _, rfl, SqL.of hD, ?_⟩
        rw [all_rep]
        walk_at "rd"
        exact opq_mk ⟨_, _, _, _, _, _, _, _, _, _, _, _, _, _, _,  rfl, e9'.trans e23⟩
    · intro σ H2 h
      obtain ⟨y1, y2, y3, y4, y5, y6, y7, y8, y9, y10, y11, y12, y13, y14, y15, rfl, e2⟩ := opq_out h
      clear h
      walk_at "rd"
      intro r101 d101 n101 m101 ne101
      refine ⟨r101, d101, _, rfl, upd_same, fun H101 h101 kp101 => ⟨rfl, ?_⟩⟩
      replace kp101 := Same.made n101 m101 fun b o h nb => kp101 b o nb h
      walk_at "rd"
      try refine ⟨look_no (by decide +kernel), ?_⟩
      walk_at "rd"
      intro p102 H102 np102 e102 hp102
      walk_at "rd"
      intro H103 e103
      rw [decide_eq_true (show (0 ≤ (1 : Int) ∧ les 1 1 = min 2 1 ∧ oth 1 1 = max 2 1) by decide)]
      walk_at "rd"
      intro p104 H104 np104 e104 hp104
      walk_at "rd"
      intro r105 d105 n105 m105 ne105
      refine ⟨r105, d105, _, rfl, upd_same, fun H105 h105 kp105 => ⟨rfl, ?_⟩⟩
      replace kp105 := Same.made n105 m105 fun b o h nb => kp105 b o nb h
      walk_at "rd"
      try refine ⟨look_no (by decide +kernel), ?_⟩
      walk_at "rd"
      intro p106 H106 np106 e106 hp106
      walk_at "rd"
      intro H107 e107
      rw [decide_eq_true (show (Legal 1 1 3 0 1 ∧ IsLost 1 (1 - 0) (3 - 1)) by decide)]
      walk_at "rd"
      intro p108 H108 np108 e108 hp108
      walk_at "rd"
      intro r109 d109 n109 m109 ne109
      refine ⟨r109, d109, _, rfl, upd_same, fun H109 h109 kp109 => ⟨rfl, ?_⟩⟩
      replace kp109 := Same.made n109 m109 fun b o h nb => kp109 b o nb h
      walk_at "rd"
      try refine ⟨look_no (by decide +kernel), ?_⟩
      walk_at "rd"
      intro p110 H110 np110 e110 hp110
      walk_at "rd"
      intro H111 e111
      rw [decide_eq_true (show (Legal 1 3 3 3 3 ∧ IsLost 1 (3 - 3) (3 - 3)) by decide)]
      walk_at "rd"
      intro lg H200 nlg e200 hlg
      walk_at "rd"
      refine ⟨.inl ⟨rfl, _, SqL.of hlg⟩, ?_⟩
      walk_at "rd"
      intro p112 H112 np112 e112 hp112
      walk_at "rd"
      intro r113 d113 n113 m113 ne113
      refine ⟨r113, d113, _, rfl, upd_same, fun H113 h113 kp113 => ⟨rfl, ?_⟩⟩
      replace kp113 := Same.made n113 m113 fun b o h nb => kp113 b o nb h
      walk_at "rd"
      try refine ⟨look_no (by decide +kernel), ?_⟩
      walk_at "rd"
      intro p114 H114 np114 e114 hp114
      walk_at "rd"
      intro H115 e115
      rw [decide_eq_true (show (Legal 2 2 3 2 3 ∧ IsLost 2 (2 - 2) (3 - 3)) by decide)]
      walk_at "rd"
      refine ⟨lg, _, _, rfl, rfl, (show _ = _ by walk_at "hp"), Nat.lt_of_lt_of_le (show 3 < 64 by decide) (by decide), ?_⟩
      generalize hG : upd H115 lg _ = H300
      have hlg2 : H300 lg = some (.lst ([V.bl true, V.bl true, V.bl true] ++ [V.bl true])) := by rw [← hG]; exact upd_same
      clear hG
      walk_at "rd"
      intro r116 d116 n116 m116 ne116
      refine ⟨r116, d116, _, rfl, upd_same, fun H116 h116 kp116 => ⟨rfl, ?_⟩⟩
      replace kp116 := Same.made n116 m116 fun b o h nb => kp116 b o nb h
      walk_at "rd"
      try refine ⟨look_no (by decide +kernel), ?_⟩
      walk_at "rd"
      intro p117 H117 np117 e117 hp117
      walk_at "rd"
      intro H118 e118
      rw [decide_eq_false (show ¬ ((0 ≤ (-1 : Int) ∧ les 1 (-1) = min 0 0 ∧ oth 1 (-1) = max 0 0)) by decide)]
      walk_at "rd"
      intro r119 d119 n119 m119 ne119
      refine ⟨r119, d119, _, rfl, upd_same, fun H119 h119 kp119 => ⟨rfl, ?_⟩⟩
      replace kp119 := Same.made n119 m119 fun b o h nb => kp119 b o nb h
      walk_at "rd"
      try refine ⟨look_no (by decide +kernel), ?_⟩
      walk_at "rd"
      intro p120 H120 np120 e120 hp120
      walk_at "rd"
      intro H121 e121
      rw [decide_eq_false (show ¬ ((0 ≤ (1 : Int) ∧ les 1 1 = min 2 2 ∧ oth 1 1 = max 2 2)) by decide)]
      walk_at "rd"
      intro p122 H122 np122 e122 hp122
      walk_at "rd"
      intro r123 d123 n123 m123 ne123
      refine ⟨r123, d123, _, rfl, upd_same, fun H123 h123 kp123 => ⟨rfl, ?_⟩⟩
      replace kp123 := Same.made n123 m123 fun b o h nb => kp123 b o nb h
      walk_at "rd"
      try refine ⟨look_no (by decide +kernel), ?_⟩
      walk_at "rd"
      intro p124 H124 np124 e124 hp124
      walk_at "rd"
      intro H125 e125
      rw [decide_eq_false (show ¬ ((Legal 1 1 2 0 0 ∧ IsLost 1 (1 - 0) (2 - 0))) by decide)]
      walk_at "rd"
      intro lb H400 nlb e400 hlb
      have nlgb : lg ≠ lb := ne_of_none (show H125 lg = some (.lst ([V.bl true, V.bl true, V.bl true] ++ [V.bl true])) by walk_at "hp") nlb
      walk_at "rd"
      refine ⟨.inl ⟨rfl, _, SqL.of hlb⟩, ?_⟩
      walk_at "rd"
      intro p126 H126 np126 e126 hp126
      walk_at "rd"
      intro r127 d127 n127 m127 ne127
      refine ⟨r127, d127, _, rfl, upd_same, fun H127 h127 kp127 => ⟨rfl, ?_⟩⟩
      replace kp127 := Same.made n127 m127 fun b o h nb => kp127 b o nb h
      walk_at "rd"
      try refine ⟨look_no (by decide +kernel), ?_⟩
      walk_at "rd"
      intro p128 H128 np128 e128 hp128
      walk_at "rd"
      intro H129 e129
      rw [decide_eq_false (show ¬ ((Legal 1 2 3 2 3 ∧ IsLost 1 (2 - 2) (3 - 3))) by decide)]
      walk_at "rd"
      have hlg3 : H129 lg = some (.lst ([V.bl true, V.bl true, V.bl true] ++ [V.bl true])) := by walk_at "hp"
      refine ⟨lb, _, _, rfl, rfl, (show _ = _ by walk_at "hp"), Nat.lt_of_lt_of_le (show 3 < 64 by decide) (by decide), ?_⟩
      generalize hG : upd H129 lb _ = H500
      have hlb2 : H500 lb = some (.lst ([V.bl false, V.bl false, V.bl false] ++ [V.bl false])) := by rw [← hG]; exact upd_same
      have hlg4 : H500 lg = some (.lst ([V.bl true, V.bl true, V.bl true] ++ [V.bl true])) := by rw [← hG, upd_ne nlgb]; exact hlg3
      clear hG
      walk_at "rd"
      intro p130 H130 np130 e130 hp130
      walk_at "rd"
      intro r131 d131 n131 m131 ne131
      refine ⟨r131, d131, _, rfl, upd_same, fun H131 h131 kp131 => ⟨rfl, ?_⟩⟩
      replace kp131 := Same.made n131 m131 fun b o h nb => kp131 b o nb h
      walk_at "rd"
      try refine ⟨look_no (by decide +kernel), ?_⟩
      walk_at "rd"
      intro p132 H132 np132 e132 hp132
      walk_at "rd"
      intro H133 e133
      rw [decide_eq_false (show ¬ ((Legal 1 0 3 0 4 ∧ IsLost 1 (0 - 0) (3 - 4))) by decide)]
      walk_at "rd"
      intro p134 H134 np134 e134 hp134
      walk_at "rd"
      intro r135 d135 n135 m135 ne135
      refine ⟨r135, d135, _, rfl, upd_same, fun H135 h135 kp135 => ⟨rfl, ?_⟩⟩
      replace kp135 := Same.made n135 m135 fun b o h nb => kp135 b o nb h
      walk_at "rd"
      try refine ⟨look_no (by decide +kernel), ?_⟩
      walk_at "rd"
      intro p136 H136 np136 e136 hp136
      walk_at "rd"
      intro H137 e137
      rw [decide_eq_false (show ¬ ((Legal 1 1 1 0 (-1) ∧ IsLost 1 (1 - 0) (1 - -1))) by decide)]
      walk_at "rd"
      intro p138 H138 np138 e138 hp138
      walk_at "rd"
      intro r139 d139 n139 m139 ne139
      refine ⟨r139, d139, _, rfl, upd_same, fun H139 h139 kp139 => ⟨rfl, ?_⟩⟩
      replace kp139 := Same.made n139 m139 fun b o h nb => kp139 b o nb h
      walk_at "rd"
      try refine ⟨look_no (by decide +kernel), ?_⟩
      walk_at "rd"
      intro p140 H140 np140 e140 hp140
      walk_at "rd"
      intro H141 e141
      rw [decide_eq_false (show ¬ ((Legal 1 3 2 1 0 ∧ IsLost 1 (3 - 1) (2 - 0))) by decide)]
      walk_at "rd"
      intro l5 H600 nl5 e600 hl5
      walk_at "rd"
      refine ⟨_, _, _, _, rfl, rfl, (show _ = _ by walk_at "hp"), hl5, Nat.le_of_ble_eq_true rfl, fun l6 H700 nl6 e700 hl6 => ?_⟩
      have hlg5 : H700 lg = some (.lst ([V.bl true, V.bl true, V.bl true] ++ [V.bl true])) := by walk_at "hp"
      walk_at "rd"
      refine ⟨⟨_, SqL.of hlg5⟩, fun D nD => lc_true nD (SqL.of hlg5) (Nat.le_of_ble_eq_true rfl) (fun _ => rfl) (fun z H701 Q' hz e701 kk => ?_) (fun H702 e702 hD => ?_)⟩
      · have hz' : z = .bl true := by
          simp only [List.cons_append, List.nil_append, List.mem_cons, List.not_mem_nil, or_false, or_self] at hz
          exact hz
        subst hz'
        exact ⟨_, rfl, true, true, rfl, kk H701 (Same.refl _)⟩
      refine ⟨_, _, rfl, SqL.of hD, ?_⟩
      rw [all_rep]
      walk_at "rd"
      have hlb5 : H702 l6 = some (.lst (([V.bl false, V.bl false, V.bl false] ++ [V.bl false]) ++ [V.bl false, V.bl false, V.bl false])) := by walk_at "hp"
      refine ⟨⟨_, SqL.of hlb5⟩, fun D2 nD2 => lc_true nD2 (SqL.of hlb5) (Nat.le_of_ble_eq_true rfl) (fun _ => rfl) (fun z H703 Q' hz e703 kk => ?_) (fun H704 e704 hD2 => ?_)⟩
      · have hz' : z = .bl false := by
          simp only [List.cons_append, List.nil_append, List.mem_cons, List.not_mem_nil, or_false, or_self] at hz
          exact hz
        subst hz'
        exact ⟨_, rfl, false, false, rfl, kk H703 (Same.refl _)⟩
      refine ⟨_, _, rfl, SqL.of hD2, ?_⟩
      rw [all_rep]
      exact q _

end

theorem all_mk {l : PySem.W.OpenLaw} {w : World} {K : PySem.W.Frag} {h : Heap} {mg : Str → Option Value} {fa C_Lost C_Won f_is_whole f_is_pair f_check_bound f_check_heaps f_may_be f_root_of f_lesser_of f_pair_of f_place_of f_is_lost f_Lost_init f_Lost_shows f_Won_init f_Won_shows f_taking_of f_told f__law_cell_at f__law_draw f__law_number f__law_root f__law_pair f__law_lost f__law_may f__law_bound f__law_heaps f__law_says f__law_lost_right f__law_won_right f_law : Addr} (X : K.In h) (G : h.Ns mainGlobals mg) (hfa : mg "law" = some (.ref fa))
    {od_is_whole an_is_whole od_is_pair an_is_pair od_check_bound an_check_bound od_check_heaps an_check_heaps od_may_be an_may_be od_root_of an_root_of od_lesser_of an_lesser_of od_pair_of an_pair_of od_place_of an_place_of od_is_lost an_is_lost od_Lost_init an_Lost_init od_Lost_shows an_Lost_shows od_Won_init an_Won_init od_Won_shows an_Won_shows od_taking_of an_taking_of od_told an_told od__law_cell_at an__law_cell_at od__law_draw an__law_draw od__law_number an__law_number od__law_root an__law_root od__law_pair an__law_pair od__law_lost an__law_lost od__law_may an__law_may od__law_bound an__law_bound od__law_heaps an__law_heaps od__law_says an__law_says od__law_lost_right an__law_lost_right od__law_won_right an__law_won_right od_law an_law : Option Addr}
    {sl_is_whole sl_is_pair sl_check_bound sl_check_heaps sl_may_be sl_root_of sl_lesser_of sl_pair_of sl_place_of sl_is_lost sl_Lost_init sl_Lost_shows sl_Won_init sl_Won_shows sl_taking_of sl_told sl__law_cell_at sl__law_draw sl__law_number sl__law_root sl__law_pair sl__law_lost sl__law_may sl__law_bound sl__law_heaps sl__law_says sl__law_lost_right sl__law_won_right sl_law : Array (Option Value)}
    {oc_is_whole kV_is_whole dc_is_whole pm_is_whole cd_is_whole ct_is_whole oc_is_pair kV_is_pair dc_is_pair pm_is_pair cd_is_pair ct_is_pair oc_check_bound kV_check_bound dc_check_bound pm_check_bound cd_check_bound ct_check_bound oc_check_heaps kV_check_heaps dc_check_heaps pm_check_heaps cd_check_heaps ct_check_heaps oc_may_be kV_may_be dc_may_be pm_may_be cd_may_be ct_may_be oc_root_of kV_root_of dc_root_of pm_root_of cd_root_of ct_root_of oc_lesser_of kV_lesser_of dc_lesser_of pm_lesser_of cd_lesser_of ct_lesser_of oc_pair_of kV_pair_of dc_pair_of pm_pair_of cd_pair_of ct_pair_of oc_place_of kV_place_of dc_place_of pm_place_of cd_place_of ct_place_of oc_is_lost kV_is_lost dc_is_lost pm_is_lost cd_is_lost ct_is_lost oc_Lost_init kV_Lost_init dc_Lost_init pm_Lost_init cd_Lost_init ct_Lost_init oc_Lost_shows kV_Lost_shows dc_Lost_shows pm_Lost_shows cd_Lost_shows ct_Lost_shows oc_Won_init kV_Won_init dc_Won_init pm_Won_init cd_Won_init ct_Won_init oc_Won_shows kV_Won_shows dc_Won_shows pm_Won_shows cd_Won_shows ct_Won_shows oc_taking_of kV_taking_of dc_taking_of pm_taking_of cd_taking_of ct_taking_of oc_told kV_told dc_told pm_told cd_told ct_told oc__law_cell_at kV__law_cell_at dc__law_cell_at pm__law_cell_at cd__law_cell_at ct__law_cell_at oc__law_draw kV__law_draw dc__law_draw pm__law_draw cd__law_draw ct__law_draw oc__law_number kV__law_number dc__law_number pm__law_number cd__law_number ct__law_number oc__law_root kV__law_root dc__law_root pm__law_root cd__law_root ct__law_root oc__law_pair kV__law_pair dc__law_pair pm__law_pair cd__law_pair ct__law_pair oc__law_lost kV__law_lost dc__law_lost pm__law_lost cd__law_lost ct__law_lost oc__law_may kV__law_may dc__law_may pm__law_may cd__law_may ct__law_may oc__law_bound kV__law_bound dc__law_bound pm__law_bound cd__law_bound ct__law_bound oc__law_heaps kV__law_heaps dc__law_heaps pm__law_heaps cd__law_heaps ct__law_heaps oc__law_says kV__law_says dc__law_says pm__law_says cd__law_says ct__law_says oc__law_lost_right kV__law_lost_right dc__law_lost_right pm__law_lost_right cd__law_lost_right ct__law_lost_right oc__law_won_right kV__law_won_right dc__law_won_right pm__law_won_right cd__law_won_right ct__law_won_right oc_law kV_law dc_law pm_law cd_law ct_law : Value}
    (aC_Lost : PySem.W.nsIn K mainGlobals "Lost" = some (some (.ref C_Lost)))
    (aC_Won : PySem.W.nsIn K mainGlobals "Won" = some (some (.ref C_Won)))
    (i_Lost : PySem.W.isClsIn K C_Lost = true)
    (ty_Lost : PySem.W.typeIn K (.ref C_Lost) = some (.type "type"))
    (su_Lost_Lost : PySem.W.subIn K (.ref C_Lost) (.ref C_Lost) = some true)
    (i_Won : PySem.W.isClsIn K C_Won = true)
    (ty_Won : PySem.W.typeIn K (.ref C_Won) = some (.type "type"))
    (su_Won_Won : PySem.W.subIn K (.ref C_Won) (.ref C_Won) = some true)
    (su_Lost_Won : PySem.W.subIn K (.ref C_Lost) (.ref C_Won) = some false)
    (ha_Lost : PySem.W.findIn K (.ref C_Lost) "__class__" = some (some (.builtin "object.__class__")))
    (hm_Lost : PySem.W.mroIn K C_Lost (.type "object") = some true)
    (su_Won_Lost : PySem.W.subIn K (.ref C_Won) (.ref C_Lost) = some false)
    (ha_Won : PySem.W.findIn K (.ref C_Won) "__class__" = some (some (.builtin "object.__class__")))
    (hm_Won : PySem.W.mroIn K C_Won (.type "object") = some true)
    (hn : PySem.W.specialIn K (.builtin "object.__class__") "__get__" = some (some (.builtin "getset_descriptor.__get__")))
    (htk : PySem.W.takesIn K (.builtin "object.__class__") = some true)
    (a_is_whole : PySem.W.nsIn K mainGlobals "is_whole" = some (some (.ref f_is_whole)))
    (l_is_whole : K.lookup f_is_whole = some ⟨oc_is_whole, od_is_whole, .func (PySem.W.fnOf "is_whole" "is_whole" (defArgs s_is_whole) (defBody s_is_whole) (defScope s_is_whole) .none kV_is_whole dc_is_whole pm_is_whole an_is_whole cd_is_whole ct_is_whole), sl_is_whole⟩)
    (c_is_whole : PySem.W.codeIn K cd_is_whole "is_whole" = true)
    (k_is_whole : PySem.W.keepIn K (.ref f_is_whole) = true)
    (a_is_pair : PySem.W.nsIn K mainGlobals "is_pair" = some (some (.ref f_is_pair)))
    (l_is_pair : K.lookup f_is_pair = some ⟨oc_is_pair, od_is_pair, .func (PySem.W.fnOf "is_pair" "is_pair" (defArgs s_is_pair) (defBody s_is_pair) (defScope s_is_pair) .none kV_is_pair dc_is_pair pm_is_pair an_is_pair cd_is_pair ct_is_pair), sl_is_pair⟩)
    (c_is_pair : PySem.W.codeIn K cd_is_pair "is_pair" = true)
    (k_is_pair : PySem.W.keepIn K (.ref f_is_pair) = true)
    (a_check_bound : PySem.W.nsIn K mainGlobals "check_bound" = some (some (.ref f_check_bound)))
    (l_check_bound : K.lookup f_check_bound = some ⟨oc_check_bound, od_check_bound, .func (PySem.W.fnOf "check_bound" "check_bound" (defArgs s_check_bound) (defBody s_check_bound) (defScope s_check_bound) .none kV_check_bound dc_check_bound pm_check_bound an_check_bound cd_check_bound ct_check_bound), sl_check_bound⟩)
    (c_check_bound : PySem.W.codeIn K cd_check_bound "check_bound" = true)
    (k_check_bound : PySem.W.keepIn K (.ref f_check_bound) = true)
    (a_check_heaps : PySem.W.nsIn K mainGlobals "check_heaps" = some (some (.ref f_check_heaps)))
    (l_check_heaps : K.lookup f_check_heaps = some ⟨oc_check_heaps, od_check_heaps, .func (PySem.W.fnOf "check_heaps" "check_heaps" (defArgs s_check_heaps) (defBody s_check_heaps) (defScope s_check_heaps) .none kV_check_heaps dc_check_heaps pm_check_heaps an_check_heaps cd_check_heaps ct_check_heaps), sl_check_heaps⟩)
    (c_check_heaps : PySem.W.codeIn K cd_check_heaps "check_heaps" = true)
    (k_check_heaps : PySem.W.keepIn K (.ref f_check_heaps) = true)
    (a_may_be : PySem.W.nsIn K mainGlobals "may_be" = some (some (.ref f_may_be)))
    (l_may_be : K.lookup f_may_be = some ⟨oc_may_be, od_may_be, .func (PySem.W.fnOf "may_be" "may_be" (defArgs s_may_be) (defBody s_may_be) (defScope s_may_be) .none kV_may_be dc_may_be pm_may_be an_may_be cd_may_be ct_may_be), sl_may_be⟩)
    (c_may_be : PySem.W.codeIn K cd_may_be "may_be" = true)
    (k_may_be : PySem.W.keepIn K (.ref f_may_be) = true)
    (a_root_of : PySem.W.nsIn K mainGlobals "root_of" = some (some (.ref f_root_of)))
    (l_root_of : K.lookup f_root_of = some ⟨oc_root_of, od_root_of, .func (PySem.W.fnOf "root_of" "root_of" (defArgs s_root_of) (defBody s_root_of) (defScope s_root_of) .none kV_root_of dc_root_of pm_root_of an_root_of cd_root_of ct_root_of), sl_root_of⟩)
    (c_root_of : PySem.W.codeIn K cd_root_of "root_of" = true)
    (k_root_of : PySem.W.keepIn K (.ref f_root_of) = true)
    (a_lesser_of : PySem.W.nsIn K mainGlobals "lesser_of" = some (some (.ref f_lesser_of)))
    (l_lesser_of : K.lookup f_lesser_of = some ⟨oc_lesser_of, od_lesser_of, .func (PySem.W.fnOf "lesser_of" "lesser_of" (defArgs s_lesser_of) (defBody s_lesser_of) (defScope s_lesser_of) .none kV_lesser_of dc_lesser_of pm_lesser_of an_lesser_of cd_lesser_of ct_lesser_of), sl_lesser_of⟩)
    (c_lesser_of : PySem.W.codeIn K cd_lesser_of "lesser_of" = true)
    (k_lesser_of : PySem.W.keepIn K (.ref f_lesser_of) = true)
    (a_pair_of : PySem.W.nsIn K mainGlobals "pair_of" = some (some (.ref f_pair_of)))
    (l_pair_of : K.lookup f_pair_of = some ⟨oc_pair_of, od_pair_of, .func (PySem.W.fnOf "pair_of" "pair_of" (defArgs s_pair_of) (defBody s_pair_of) (defScope s_pair_of) .none kV_pair_of dc_pair_of pm_pair_of an_pair_of cd_pair_of ct_pair_of), sl_pair_of⟩)
    (c_pair_of : PySem.W.codeIn K cd_pair_of "pair_of" = true)
    (k_pair_of : PySem.W.keepIn K (.ref f_pair_of) = true)
    (a_place_of : PySem.W.nsIn K mainGlobals "place_of" = some (some (.ref f_place_of)))
    (l_place_of : K.lookup f_place_of = some ⟨oc_place_of, od_place_of, .func (PySem.W.fnOf "place_of" "place_of" (defArgs s_place_of) (defBody s_place_of) (defScope s_place_of) .none kV_place_of dc_place_of pm_place_of an_place_of cd_place_of ct_place_of), sl_place_of⟩)
    (c_place_of : PySem.W.codeIn K cd_place_of "place_of" = true)
    (k_place_of : PySem.W.keepIn K (.ref f_place_of) = true)
    (a_is_lost : PySem.W.nsIn K mainGlobals "is_lost" = some (some (.ref f_is_lost)))
    (l_is_lost : K.lookup f_is_lost = some ⟨oc_is_lost, od_is_lost, .func (PySem.W.fnOf "is_lost" "is_lost" (defArgs s_is_lost) (defBody s_is_lost) (defScope s_is_lost) .none kV_is_lost dc_is_lost pm_is_lost an_is_lost cd_is_lost ct_is_lost), sl_is_lost⟩)
    (c_is_lost : PySem.W.codeIn K cd_is_lost "is_lost" = true)
    (k_is_lost : PySem.W.keepIn K (.ref f_is_lost) = true)
    (a_Lost_init : PySem.W.findIn K (.ref C_Lost) "__init__" = some (some (.ref f_Lost_init)))
    (i_Lost_init : PySem.W.isFn K (.ref f_Lost_init) = true)
    (l_Lost_init : K.lookup f_Lost_init = some ⟨oc_Lost_init, od_Lost_init, .func (PySem.W.fnOf "__init__" "Lost.__init__" (defArgs s_Lost_init) (defBody s_Lost_init) (defScope s_Lost_init) .none kV_Lost_init dc_Lost_init pm_Lost_init an_Lost_init cd_Lost_init ct_Lost_init), sl_Lost_init⟩)
    (c_Lost_init : PySem.W.codeIn K cd_Lost_init "Lost.__init__" = true)
    (k_Lost_init : PySem.W.keepIn K (.ref f_Lost_init) = true)
    (a_Lost_shows : PySem.W.findIn K (.ref C_Lost) "shows" = some (some (.ref f_Lost_shows)))
    (i_Lost_shows : PySem.W.isFn K (.ref f_Lost_shows) = true)
    (l_Lost_shows : K.lookup f_Lost_shows = some ⟨oc_Lost_shows, od_Lost_shows, .func (PySem.W.fnOf "shows" "Lost.shows" (defArgs s_Lost_shows) (defBody s_Lost_shows) (defScope s_Lost_shows) .none kV_Lost_shows dc_Lost_shows pm_Lost_shows an_Lost_shows cd_Lost_shows ct_Lost_shows), sl_Lost_shows⟩)
    (c_Lost_shows : PySem.W.codeIn K cd_Lost_shows "Lost.shows" = true)
    (k_Lost_shows : PySem.W.keepIn K (.ref f_Lost_shows) = true)
    (a_Won_init : PySem.W.findIn K (.ref C_Won) "__init__" = some (some (.ref f_Won_init)))
    (i_Won_init : PySem.W.isFn K (.ref f_Won_init) = true)
    (l_Won_init : K.lookup f_Won_init = some ⟨oc_Won_init, od_Won_init, .func (PySem.W.fnOf "__init__" "Won.__init__" (defArgs s_Won_init) (defBody s_Won_init) (defScope s_Won_init) .none kV_Won_init dc_Won_init pm_Won_init an_Won_init cd_Won_init ct_Won_init), sl_Won_init⟩)
    (c_Won_init : PySem.W.codeIn K cd_Won_init "Won.__init__" = true)
    (k_Won_init : PySem.W.keepIn K (.ref f_Won_init) = true)
    (a_Won_shows : PySem.W.findIn K (.ref C_Won) "shows" = some (some (.ref f_Won_shows)))
    (i_Won_shows : PySem.W.isFn K (.ref f_Won_shows) = true)
    (l_Won_shows : K.lookup f_Won_shows = some ⟨oc_Won_shows, od_Won_shows, .func (PySem.W.fnOf "shows" "Won.shows" (defArgs s_Won_shows) (defBody s_Won_shows) (defScope s_Won_shows) .none kV_Won_shows dc_Won_shows pm_Won_shows an_Won_shows cd_Won_shows ct_Won_shows), sl_Won_shows⟩)
    (c_Won_shows : PySem.W.codeIn K cd_Won_shows "Won.shows" = true)
    (k_Won_shows : PySem.W.keepIn K (.ref f_Won_shows) = true)
    (a_taking_of : PySem.W.nsIn K mainGlobals "taking_of" = some (some (.ref f_taking_of)))
    (l_taking_of : K.lookup f_taking_of = some ⟨oc_taking_of, od_taking_of, .func (PySem.W.fnOf "taking_of" "taking_of" (defArgs s_taking_of) (defBody s_taking_of) (defScope s_taking_of) .none kV_taking_of dc_taking_of pm_taking_of an_taking_of cd_taking_of ct_taking_of), sl_taking_of⟩)
    (c_taking_of : PySem.W.codeIn K cd_taking_of "taking_of" = true)
    (k_taking_of : PySem.W.keepIn K (.ref f_taking_of) = true)
    (a_told : PySem.W.nsIn K mainGlobals "told" = some (some (.ref f_told)))
    (l_told : K.lookup f_told = some ⟨oc_told, od_told, .func (PySem.W.fnOf "told" "told" (defArgs s_told) (defBody s_told) (defScope s_told) .none kV_told dc_told pm_told an_told cd_told ct_told), sl_told⟩)
    (c_told : PySem.W.codeIn K cd_told "told" = true)
    (k_told : PySem.W.keepIn K (.ref f_told) = true)
    (a__law_cell_at : PySem.W.nsIn K mainGlobals "_law_cell_at" = some (some (.ref f__law_cell_at)))
    (l__law_cell_at : K.lookup f__law_cell_at = some ⟨oc__law_cell_at, od__law_cell_at, .func (PySem.W.fnOf "_law_cell_at" "_law_cell_at" (defArgs s__law_cell_at) (defBody s__law_cell_at) (defScope s__law_cell_at) .none kV__law_cell_at dc__law_cell_at pm__law_cell_at an__law_cell_at cd__law_cell_at ct__law_cell_at), sl__law_cell_at⟩)
    (c__law_cell_at : PySem.W.codeIn K cd__law_cell_at "_law_cell_at" = true)
    (k__law_cell_at : PySem.W.keepIn K (.ref f__law_cell_at) = true)
    (a__law_draw : PySem.W.nsIn K mainGlobals "_law_draw" = some (some (.ref f__law_draw)))
    (l__law_draw : K.lookup f__law_draw = some ⟨oc__law_draw, od__law_draw, .func (PySem.W.fnOf "_law_draw" "_law_draw" (defArgs s__law_draw) (defBody s__law_draw) (defScope s__law_draw) .none kV__law_draw dc__law_draw pm__law_draw an__law_draw cd__law_draw ct__law_draw), sl__law_draw⟩)
    (c__law_draw : PySem.W.codeIn K cd__law_draw "_law_draw" = true)
    (k__law_draw : PySem.W.keepIn K (.ref f__law_draw) = true)
    (a__law_number : PySem.W.nsIn K mainGlobals "_law_number" = some (some (.ref f__law_number)))
    (l__law_number : K.lookup f__law_number = some ⟨oc__law_number, od__law_number, .func (PySem.W.fnOf "_law_number" "_law_number" (defArgs s__law_number) (defBody s__law_number) (defScope s__law_number) .none kV__law_number dc__law_number pm__law_number an__law_number cd__law_number ct__law_number), sl__law_number⟩)
    (c__law_number : PySem.W.codeIn K cd__law_number "_law_number" = true)
    (k__law_number : PySem.W.keepIn K (.ref f__law_number) = true)
    (a__law_root : PySem.W.nsIn K mainGlobals "_law_root" = some (some (.ref f__law_root)))
    (l__law_root : K.lookup f__law_root = some ⟨oc__law_root, od__law_root, .func (PySem.W.fnOf "_law_root" "_law_root" (defArgs s__law_root) (defBody s__law_root) (defScope s__law_root) .none kV__law_root dc__law_root pm__law_root an__law_root cd__law_root ct__law_root), sl__law_root⟩)
    (c__law_root : PySem.W.codeIn K cd__law_root "_law_root" = true)
    (k__law_root : PySem.W.keepIn K (.ref f__law_root) = true)
    (a__law_pair : PySem.W.nsIn K mainGlobals "_law_pair" = some (some (.ref f__law_pair)))
    (l__law_pair : K.lookup f__law_pair = some ⟨oc__law_pair, od__law_pair, .func (PySem.W.fnOf "_law_pair" "_law_pair" (defArgs s__law_pair) (defBody s__law_pair) (defScope s__law_pair) .none kV__law_pair dc__law_pair pm__law_pair an__law_pair cd__law_pair ct__law_pair), sl__law_pair⟩)
    (c__law_pair : PySem.W.codeIn K cd__law_pair "_law_pair" = true)
    (k__law_pair : PySem.W.keepIn K (.ref f__law_pair) = true)
    (a__law_lost : PySem.W.nsIn K mainGlobals "_law_lost" = some (some (.ref f__law_lost)))
    (l__law_lost : K.lookup f__law_lost = some ⟨oc__law_lost, od__law_lost, .func (PySem.W.fnOf "_law_lost" "_law_lost" (defArgs s__law_lost) (defBody s__law_lost) (defScope s__law_lost) .none kV__law_lost dc__law_lost pm__law_lost an__law_lost cd__law_lost ct__law_lost), sl__law_lost⟩)
    (c__law_lost : PySem.W.codeIn K cd__law_lost "_law_lost" = true)
    (k__law_lost : PySem.W.keepIn K (.ref f__law_lost) = true)
    (a__law_may : PySem.W.nsIn K mainGlobals "_law_may" = some (some (.ref f__law_may)))
    (l__law_may : K.lookup f__law_may = some ⟨oc__law_may, od__law_may, .func (PySem.W.fnOf "_law_may" "_law_may" (defArgs s__law_may) (defBody s__law_may) (defScope s__law_may) .none kV__law_may dc__law_may pm__law_may an__law_may cd__law_may ct__law_may), sl__law_may⟩)
    (c__law_may : PySem.W.codeIn K cd__law_may "_law_may" = true)
    (k__law_may : PySem.W.keepIn K (.ref f__law_may) = true)
    (a__law_bound : PySem.W.nsIn K mainGlobals "_law_bound" = some (some (.ref f__law_bound)))
    (l__law_bound : K.lookup f__law_bound = some ⟨oc__law_bound, od__law_bound, .func (PySem.W.fnOf "_law_bound" "_law_bound" (defArgs s__law_bound) (defBody s__law_bound) (defScope s__law_bound) .none kV__law_bound dc__law_bound pm__law_bound an__law_bound cd__law_bound ct__law_bound), sl__law_bound⟩)
    (c__law_bound : PySem.W.codeIn K cd__law_bound "_law_bound" = true)
    (k__law_bound : PySem.W.keepIn K (.ref f__law_bound) = true)
    (a__law_heaps : PySem.W.nsIn K mainGlobals "_law_heaps" = some (some (.ref f__law_heaps)))
    (l__law_heaps : K.lookup f__law_heaps = some ⟨oc__law_heaps, od__law_heaps, .func (PySem.W.fnOf "_law_heaps" "_law_heaps" (defArgs s__law_heaps) (defBody s__law_heaps) (defScope s__law_heaps) .none kV__law_heaps dc__law_heaps pm__law_heaps an__law_heaps cd__law_heaps ct__law_heaps), sl__law_heaps⟩)
    (c__law_heaps : PySem.W.codeIn K cd__law_heaps "_law_heaps" = true)
    (k__law_heaps : PySem.W.keepIn K (.ref f__law_heaps) = true)
    (a__law_says : PySem.W.nsIn K mainGlobals "_law_says" = some (some (.ref f__law_says)))
    (l__law_says : K.lookup f__law_says = some ⟨oc__law_says, od__law_says, .func (PySem.W.fnOf "_law_says" "_law_says" (defArgs s__law_says) (defBody s__law_says) (defScope s__law_says) .none kV__law_says dc__law_says pm__law_says an__law_says cd__law_says ct__law_says), sl__law_says⟩)
    (c__law_says : PySem.W.codeIn K cd__law_says "_law_says" = true)
    (k__law_says : PySem.W.keepIn K (.ref f__law_says) = true)
    (a__law_lost_right : PySem.W.nsIn K mainGlobals "_law_lost_right" = some (some (.ref f__law_lost_right)))
    (l__law_lost_right : K.lookup f__law_lost_right = some ⟨oc__law_lost_right, od__law_lost_right, .func (PySem.W.fnOf "_law_lost_right" "_law_lost_right" (defArgs s__law_lost_right) (defBody s__law_lost_right) (defScope s__law_lost_right) .none kV__law_lost_right dc__law_lost_right pm__law_lost_right an__law_lost_right cd__law_lost_right ct__law_lost_right), sl__law_lost_right⟩)
    (c__law_lost_right : PySem.W.codeIn K cd__law_lost_right "_law_lost_right" = true)
    (k__law_lost_right : PySem.W.keepIn K (.ref f__law_lost_right) = true)
    (a__law_won_right : PySem.W.nsIn K mainGlobals "_law_won_right" = some (some (.ref f__law_won_right)))
    (l__law_won_right : K.lookup f__law_won_right = some ⟨oc__law_won_right, od__law_won_right, .func (PySem.W.fnOf "_law_won_right" "_law_won_right" (defArgs s__law_won_right) (defBody s__law_won_right) (defScope s__law_won_right) .none kV__law_won_right dc__law_won_right pm__law_won_right an__law_won_right cd__law_won_right ct__law_won_right), sl__law_won_right⟩)
    (c__law_won_right : PySem.W.codeIn K cd__law_won_right "_law_won_right" = true)
    (k__law_won_right : PySem.W.keepIn K (.ref f__law_won_right) = true)
    (a_law : PySem.W.nsIn K mainGlobals "law" = some (some (.ref f_law)))
    (l_law : K.lookup f_law = some ⟨oc_law, od_law, .func (PySem.W.fnOf "law" "law" (defArgs s_law) (defBody s_law) (defScope s_law) .none kV_law dc_law pm_law an_law cd_law ct_law), sl_law⟩)
    (c_law : PySem.W.codeIn K cd_law "law" = true)
    (k_law : PySem.W.keepIn K (.ref f_law) = true)
    (pg_Lost : PySem.W.plainGet K C_Lost Str.empty = true)
    (hd_Lost : PySem.W.hasDictIn K C_Lost = true)
    (po_Lost : PySem.W.plainOver K C_Lost = true)
    (sa_Lost : PySem.W.findIn K (.ref C_Lost) "__setattr__" = some (some (.builtin "object.__setattr__")))
    (mk_Lost : PySem.W.makesIn K C_Lost = true)
    (kc_Lost : PySem.W.keepIn K (.ref C_Lost) = true)
    (nf_Lost_number : PySem.W.findIn K (.ref C_Lost) "number" = some none)
    (pg_Won : PySem.W.plainGet K C_Won Str.empty = true)
    (hd_Won : PySem.W.hasDictIn K C_Won = true)
    (po_Won : PySem.W.plainOver K C_Won = true)
    (sa_Won : PySem.W.findIn K (.ref C_Won) "__setattr__" = some (some (.builtin "object.__setattr__")))
    (mk_Won : PySem.W.makesIn K C_Won = true)
    (kc_Won : PySem.W.keepIn K (.ref C_Won) = true)
    (nf_Won_taking : PySem.W.findIn K (.ref C_Won) "taking" = some none)
    (z_isinstance : PySem.W.nsIn K mainGlobals "isinstance" = some none)
    (z_len : PySem.W.nsIn K mainGlobals "len" = some none)
    (z_max : PySem.W.nsIn K mainGlobals "max" = some none)
    (z_min : PySem.W.nsIn K mainGlobals "min" = some none)
    (z_abs : PySem.W.nsIn K mainGlobals "abs" = some none)
    (z_int : PySem.W.nsIn K mainGlobals "int" = some none)
    (z_bool : PySem.W.nsIn K mainGlobals "bool" = some none)
    (z_tuple : PySem.W.nsIn K mainGlobals "tuple" = some none)
    (z_range : PySem.W.nsIn K mainGlobals "range" = some none)
    (z_all : PySem.W.nsIn K mainGlobals "all" = some none)
    : ∃ fd : FuncData, (∀ (s : Shared) (v : Value), BindsTo s fd ⟨[v], []⟩ [("_law_script", v)]) ∧ ∀ base : Heap, K.In base → base.Ns mainGlobals mg → FnOk l.prog w K mg base CX0 7 fa fd ["_law_script"] (sp_law K) := by
  have e := hfa.symm.trans (PySem.W.mg_of X G a_law)
  cases e
  have F_is_whole := fun_mk (st := s_is_whole) l_is_whole c_is_whole k_is_whole
  have b_is_whole := F_is_whole.binds (ps := ["thing"]) fun _ _ _ _ _ _ us hl => match us, hl with | [_], _ => rfl
  have F_is_pair := fun_mk (st := s_is_pair) l_is_pair c_is_pair k_is_pair
  have b_is_pair := F_is_pair.binds (ps := ["thing"]) fun _ _ _ _ _ _ us hl => match us, hl with | [_], _ => rfl
  have F_check_bound := fun_mk (st := s_check_bound) l_check_bound c_check_bound k_check_bound
  have b_check_bound := F_check_bound.binds (ps := ["bound"]) fun _ _ _ _ _ _ us hl => match us, hl with | [_], _ => rfl
  have F_check_heaps := fun_mk (st := s_check_heaps) l_check_heaps c_check_heaps k_check_heaps
  have b_check_heaps := F_check_heaps.binds (ps := ["heaps"]) fun _ _ _ _ _ _ us hl => match us, hl with | [_], _ => rfl
  have F_may_be := fun_mk (st := s_may_be) l_may_be c_may_be k_may_be
  have b_may_be := F_may_be.binds (ps := ["bound", "heaps", "taking"]) fun _ _ _ _ _ _ us hl => match us, hl with | [_, _, _], _ => rfl
  have F_root_of := fun_mk (st := s_root_of) l_root_of c_root_of k_root_of
  have b_root_of := F_root_of.binds (ps := ["number"]) fun _ _ _ _ _ _ us hl => match us, hl with | [_], _ => rfl
  have F_lesser_of := fun_mk (st := s_lesser_of) l_lesser_of c_lesser_of k_lesser_of
  have b_lesser_of := F_lesser_of.binds (ps := ["bound", "number"]) fun _ _ _ _ _ _ us hl => match us, hl with | [_, _], _ => rfl
  have F_pair_of := fun_mk (st := s_pair_of) l_pair_of c_pair_of k_pair_of
  have b_pair_of := F_pair_of.binds (ps := ["bound", "number"]) fun _ _ _ _ _ _ us hl => match us, hl with | [_, _], _ => rfl
  have F_place_of := fun_mk (st := s_place_of) l_place_of c_place_of k_place_of
  have b_place_of := F_place_of.binds (ps := ["bound", "number"]) fun _ _ _ _ _ _ us hl => match us, hl with | [_, _], _ => rfl
  have F_is_lost := fun_mk (st := s_is_lost) l_is_lost c_is_lost k_is_lost
  have b_is_lost := F_is_lost.binds (ps := ["bound", "heaps"]) fun _ _ _ _ _ _ us hl => match us, hl with | [_, _], _ => rfl
  have F_Lost_init := fun_mk (st := s_Lost_init) l_Lost_init c_Lost_init k_Lost_init
  have b_Lost_init := F_Lost_init.binds (ps := ["self", "number"]) fun _ _ _ _ _ _ us hl => match us, hl with | [_, _], _ => rfl
  have F_Lost_shows := fun_mk (st := s_Lost_shows) l_Lost_shows c_Lost_shows k_Lost_shows
  have b_Lost_shows := F_Lost_shows.binds (ps := ["self", "bound", "heaps"]) fun _ _ _ _ _ _ us hl => match us, hl with | [_, _, _], _ => rfl
  have F_Won_init := fun_mk (st := s_Won_init) l_Won_init c_Won_init k_Won_init
  have b_Won_init := F_Won_init.binds (ps := ["self", "taking"]) fun _ _ _ _ _ _ us hl => match us, hl with | [_, _], _ => rfl
  have F_Won_shows := fun_mk (st := s_Won_shows) l_Won_shows c_Won_shows k_Won_shows
  have b_Won_shows := F_Won_shows.binds (ps := ["self", "bound", "heaps"]) fun _ _ _ _ _ _ us hl => match us, hl with | [_, _, _], _ => rfl
  have F_taking_of := fun_mk (st := s_taking_of) l_taking_of c_taking_of k_taking_of
  have b_taking_of := F_taking_of.binds (ps := ["bound", "low", "high"]) fun _ _ _ _ _ _ us hl => match us, hl with | [_, _, _], _ => rfl
  have F_told := fun_mk (st := s_told) l_told c_told k_told
  have b_told := F_told.binds (ps := ["bound", "heaps"]) fun _ _ _ _ _ _ us hl => match us, hl with | [_, _], _ => rfl
  have F__law_cell_at := fun_mk (st := s__law_cell_at) l__law_cell_at c__law_cell_at k__law_cell_at
  have b__law_cell_at := F__law_cell_at.binds (ps := ["_law_script", "_law_k"]) fun _ _ _ _ _ _ us hl => match us, hl with | [_, _], _ => rfl
  have F__law_draw := fun_mk (st := s__law_draw) l__law_draw c__law_draw k__law_draw
  have b__law_draw := F__law_draw.binds (ps := ["_law_cell", "_law_k", "_law_many"]) fun _ _ _ _ _ _ us hl => match us, hl with | [_, _, _], _ => rfl
  have F__law_number := fun_mk (st := s__law_number) l__law_number c__law_number k__law_number
  have b__law_number := F__law_number.binds (ps := ["_law_cell", "_law_k", "_law_limit"]) fun _ _ _ _ _ _ us hl => match us, hl with | [_, _, _], _ => rfl
  have F__law_root := fun_mk (st := s__law_root) l__law_root c__law_root k__law_root
  have b__law_root := F__law_root.binds (ps := ["_law_number_here"]) fun _ _ _ _ _ _ us hl => match us, hl with | [_], _ => rfl
  have F__law_pair := fun_mk (st := s__law_pair) l__law_pair c__law_pair k__law_pair
  have b__law_pair := F__law_pair.binds (ps := ["_law_by", "_law_at"]) fun _ _ _ _ _ _ us hl => match us, hl with | [_, _], _ => rfl
  have F__law_lost := fun_mk (st := s__law_lost) l__law_lost c__law_lost k__law_lost
  have b__law_lost := F__law_lost.binds (ps := ["_law_by", "_law_both"]) fun _ _ _ _ _ _ us hl => match us, hl with | [_, _], _ => rfl
  have F__law_may := fun_mk (st := s__law_may) l__law_may c__law_may k__law_may
  have b__law_may := F__law_may.binds (ps := ["_law_bound_here", "_law_heaps_here", "_law_taking"]) fun _ _ _ _ _ _ us hl => match us, hl with | [_, _, _], _ => rfl
  have F__law_bound := fun_mk (st := s__law_bound) l__law_bound c__law_bound k__law_bound
  have b__law_bound := F__law_bound.binds (ps := ["_law_script", "_law_k"]) fun _ _ _ _ _ _ us hl => match us, hl with | [_, _], _ => rfl
  have F__law_heaps := fun_mk (st := s__law_heaps) l__law_heaps c__law_heaps k__law_heaps
  have b__law_heaps := F__law_heaps.binds (ps := ["_law_script", "_law_k", "_law_bound_here"]) fun _ _ _ _ _ _ us hl => match us, hl with | [_, _, _], _ => rfl
  have F__law_says := fun_mk (st := s__law_says) l__law_says c__law_says k__law_says
  have b__law_says := F__law_says.binds (ps := ["_law_said", "_law_due"]) fun _ _ _ _ _ _ us hl => match us, hl with | [_, _], _ => rfl
  have F__law_lost_right := fun_mk (st := s__law_lost_right) l__law_lost_right c__law_lost_right k__law_lost_right
  have b__law_lost_right := F__law_lost_right.binds (ps := ["_law_bound_here", "_law_heaps_here", "_law_number_here"]) fun _ _ _ _ _ _ us hl => match us, hl with | [_, _, _], _ => rfl
  have F__law_won_right := fun_mk (st := s__law_won_right) l__law_won_right c__law_won_right k__law_won_right
  have b__law_won_right := F__law_won_right.binds (ps := ["_law_bound_here", "_law_heaps_here", "_law_taking"]) fun _ _ _ _ _ _ us hl => match us, hl with | [_, _, _], _ => rfl
  have F_law := fun_mk (st := s_law) l_law c_law k_law
  have b_law := F_law.binds (ps := ["_law_script"]) fun _ _ _ _ _ _ us hl => match us, hl with | [_], _ => rfl
  exact ⟨PySem.W.fnOf "law" "law" (defArgs s_law) (defBody s_law) (defScope s_law) .none kV_law dc_law pm_law an_law cd_law ct_law, fun s v => .of_eq rfl, fun base _ _ => ok_law { a_Lost := C_Lost, g_Lost := PySem.W.mg_of X G aC_Lost, a_Won := C_Won, g_Won := PySem.W.mg_of X G aC_Won, i_Lost := i_Lost, ty_Lost := ty_Lost, su_Lost_Lost := su_Lost_Lost, i_Won := i_Won, ty_Won := ty_Won, su_Won_Won := su_Won_Won, su_Lost_Won := su_Lost_Won, ha_Lost := ha_Lost, hm_Lost := hm_Lost, su_Won_Lost := su_Won_Lost, ha_Won := ha_Won, hm_Won := hm_Won, hn := hn, htk := htk, g_is_whole := PySem.W.mg_of X G a_is_whole, a_is_whole := f_is_whole, d_is_whole := _, F_is_whole := F_is_whole, b_is_whole := b_is_whole, g_is_pair := PySem.W.mg_of X G a_is_pair, a_is_pair := f_is_pair, d_is_pair := _, F_is_pair := F_is_pair, b_is_pair := b_is_pair, g_check_bound := PySem.W.mg_of X G a_check_bound, a_check_bound := f_check_bound, d_check_bound := _, F_check_bound := F_check_bound, b_check_bound := b_check_bound, g_check_heaps := PySem.W.mg_of X G a_check_heaps, a_check_heaps := f_check_heaps, d_check_heaps := _, F_check_heaps := F_check_heaps, b_check_heaps := b_check_heaps, g_may_be := PySem.W.mg_of X G a_may_be, a_may_be := f_may_be, d_may_be := _, F_may_be := F_may_be, b_may_be := b_may_be, g_root_of := PySem.W.mg_of X G a_root_of, a_root_of := f_root_of, d_root_of := _, F_root_of := F_root_of, b_root_of := b_root_of, g_lesser_of := PySem.W.mg_of X G a_lesser_of, a_lesser_of := f_lesser_of, d_lesser_of := _, F_lesser_of := F_lesser_of, b_lesser_of := b_lesser_of, g_pair_of := PySem.W.mg_of X G a_pair_of, a_pair_of := f_pair_of, d_pair_of := _, F_pair_of := F_pair_of, b_pair_of := b_pair_of, g_place_of := PySem.W.mg_of X G a_place_of, a_place_of := f_place_of, d_place_of := _, F_place_of := F_place_of, b_place_of := b_place_of, g_is_lost := PySem.W.mg_of X G a_is_lost, a_is_lost := f_is_lost, d_is_lost := _, F_is_lost := F_is_lost, b_is_lost := b_is_lost, a_Lost_init := f_Lost_init, d_Lost_init := _, F_Lost_init := F_Lost_init, b_Lost_init := b_Lost_init, a_Lost_shows := f_Lost_shows, d_Lost_shows := _, F_Lost_shows := F_Lost_shows, b_Lost_shows := b_Lost_shows, a_Won_init := f_Won_init, d_Won_init := _, F_Won_init := F_Won_init, b_Won_init := b_Won_init, a_Won_shows := f_Won_shows, d_Won_shows := _, F_Won_shows := F_Won_shows, b_Won_shows := b_Won_shows, g_taking_of := PySem.W.mg_of X G a_taking_of, a_taking_of := f_taking_of, d_taking_of := _, F_taking_of := F_taking_of, b_taking_of := b_taking_of, g_told := PySem.W.mg_of X G a_told, a_told := f_told, d_told := _, F_told := F_told, b_told := b_told, g__law_cell_at := PySem.W.mg_of X G a__law_cell_at, a__law_cell_at := f__law_cell_at, d__law_cell_at := _, F__law_cell_at := F__law_cell_at, b__law_cell_at := b__law_cell_at, g__law_draw := PySem.W.mg_of X G a__law_draw, a__law_draw := f__law_draw, d__law_draw := _, F__law_draw := F__law_draw, b__law_draw := b__law_draw, g__law_number := PySem.W.mg_of X G a__law_number, a__law_number := f__law_number, d__law_number := _, F__law_number := F__law_number, b__law_number := b__law_number, g__law_root := PySem.W.mg_of X G a__law_root, a__law_root := f__law_root, d__law_root := _, F__law_root := F__law_root, b__law_root := b__law_root, g__law_pair := PySem.W.mg_of X G a__law_pair, a__law_pair := f__law_pair, d__law_pair := _, F__law_pair := F__law_pair, b__law_pair := b__law_pair, g__law_lost := PySem.W.mg_of X G a__law_lost, a__law_lost := f__law_lost, d__law_lost := _, F__law_lost := F__law_lost, b__law_lost := b__law_lost, g__law_may := PySem.W.mg_of X G a__law_may, a__law_may := f__law_may, d__law_may := _, F__law_may := F__law_may, b__law_may := b__law_may, g__law_bound := PySem.W.mg_of X G a__law_bound, a__law_bound := f__law_bound, d__law_bound := _, F__law_bound := F__law_bound, b__law_bound := b__law_bound, g__law_heaps := PySem.W.mg_of X G a__law_heaps, a__law_heaps := f__law_heaps, d__law_heaps := _, F__law_heaps := F__law_heaps, b__law_heaps := b__law_heaps, g__law_says := PySem.W.mg_of X G a__law_says, a__law_says := f__law_says, d__law_says := _, F__law_says := F__law_says, b__law_says := b__law_says, g__law_lost_right := PySem.W.mg_of X G a__law_lost_right, a__law_lost_right := f__law_lost_right, d__law_lost_right := _, F__law_lost_right := F__law_lost_right, b__law_lost_right := b__law_lost_right, g__law_won_right := PySem.W.mg_of X G a__law_won_right, a__law_won_right := f__law_won_right, d__law_won_right := _, F__law_won_right := F__law_won_right, b__law_won_right := b__law_won_right, g_law := PySem.W.mg_of X G a_law, a_law := fa, d_law := _, F_law := F_law, b_law := b_law, c_Lost := ⟨pg_Lost, hd_Lost, po_Lost, sa_Lost⟩, m_Lost := ⟨mk_Lost, a_Lost_init, i_Lost_init, kc_Lost⟩, mt_Lost_shows := ⟨a_Lost_shows, i_Lost_shows, k_Lost_shows⟩, nf_Lost_number := nf_Lost_number, c_Won := ⟨pg_Won, hd_Won, po_Won, sa_Won⟩, m_Won := ⟨mk_Won, a_Won_init, i_Won_init, kc_Won⟩, mt_Won_shows := ⟨a_Won_shows, i_Won_shows, k_Won_shows⟩, nf_Won_taking := nf_Won_taking, n_isinstance := PySem.W.mg_none_of X G z_isinstance, n_len := PySem.W.mg_none_of X G z_len, n_max := PySem.W.mg_none_of X G z_max, n_min := PySem.W.mg_none_of X G z_min, n_abs := PySem.W.mg_none_of X G z_abs, n_int := PySem.W.mg_none_of X G z_int, n_bool := PySem.W.mg_none_of X G z_bool, n_tuple := PySem.W.mg_none_of X G z_tuple, n_range := PySem.W.mg_none_of X G z_range, n_all := PySem.W.mg_none_of X G z_all }⟩
end TW
open PySem PySem.W PyProof.Rows
set_option maxRecDepth 100000 in
set_option maxHeartbeats 0 in
theorem PySem.Challenge.cw_twoheaps_k04_answers_by_hand_holds : PySem.Challenge.rw_twoheaps_k04_answers_by_hand.Holds := by
  w_on; o_law; k_head; (case hw => w_witness2)
  k_fill
  refine L2.walk_ofB (l := PySem.Challenge.rw_twoheaps_k04_answers_by_hand) (n := 63) (k := 7) (x := "_law_script") (CX := fun _ => L2.CX0) (sp := fun w => TW.sp_law _) rfl (by decide) rfl ⟨rfl, by decide, by decide⟩ (fun w h Y => PySem.W.kIn_of Y) ?F (fun _ _ a ns hl hb _ hS => ⟨a, ns, rfl, hS, hl, fun n hn => TH.bd_mono (TH.bd_bits (hb n hn)) (by decide), fun _ => rfl⟩) (fun _ _ _ _ _ h => h)
  case F =>
    intro w mg fa h KX G hmg
    refine' TW.all_mk KX G hmg ?aC_Lost ?aC_Won ?i_Lost ?ty_Lost ?su_Lost_Lost ?i_Won ?ty_Won ?su_Won_Won ?su_Lost_Won ?ha_Lost ?hm_Lost ?su_Won_Lost ?ha_Won ?hm_Won ?hn ?htk ?a_is_whole ?l_is_whole ?c_is_whole ?k_is_whole ?a_is_pair ?l_is_pair ?c_is_pair ?k_is_pair ?a_check_bound ?l_check_bound ?c_check_bound ?k_check_bound ?a_check_heaps ?l_check_heaps ?c_check_heaps ?k_check_heaps ?a_may_be ?l_may_be ?c_may_be ?k_may_be ?a_root_of ?l_root_of ?c_root_of ?k_root_of ?a_lesser_of ?l_lesser_of ?c_lesser_of ?k_lesser_of ?a_pair_of ?l_pair_of ?c_pair_of ?k_pair_of ?a_place_of ?l_place_of ?c_place_of ?k_place_of ?a_is_lost ?l_is_lost ?c_is_lost ?k_is_lost ?a_Lost_init ?i_Lost_init ?l_Lost_init ?c_Lost_init ?k_Lost_init ?a_Lost_shows ?i_Lost_shows ?l_Lost_shows ?c_Lost_shows ?k_Lost_shows ?a_Won_init ?i_Won_init ?l_Won_init ?c_Won_init ?k_Won_init ?a_Won_shows ?i_Won_shows ?l_Won_shows ?c_Won_shows ?k_Won_shows ?a_taking_of ?l_taking_of ?c_taking_of ?k_taking_of ?a_told ?l_told ?c_told ?k_told ?a__law_cell_at ?l__law_cell_at ?c__law_cell_at ?k__law_cell_at ?a__law_draw ?l__law_draw ?c__law_draw ?k__law_draw ?a__law_number ?l__law_number ?c__law_number ?k__law_number ?a__law_root ?l__law_root ?c__law_root ?k__law_root ?a__law_pair ?l__law_pair ?c__law_pair ?k__law_pair ?a__law_lost ?l__law_lost ?c__law_lost ?k__law_lost ?a__law_may ?l__law_may ?c__law_may ?k__law_may ?a__law_bound ?l__law_bound ?c__law_bound ?k__law_bound ?a__law_heaps ?l__law_heaps ?c__law_heaps ?k__law_heaps ?a__law_says ?l__law_says ?c__law_says ?k__law_says ?a__law_lost_right ?l__law_lost_right ?c__law_lost_right ?k__law_lost_right ?a__law_won_right ?l__law_won_right ?c__law_won_right ?k__law_won_right ?a_law ?l_law ?c_law ?k_law ?pg_Lost ?hd_Lost ?po_Lost ?sa_Lost ?mk_Lost ?kc_Lost ?nf_Lost_number ?pg_Won ?hd_Won ?po_Won ?sa_Won ?mk_Won ?kc_Won ?nf_Won_taking ?z_isinstance ?z_len ?z_max ?z_min ?z_abs ?z_int ?z_bool ?z_tuple ?z_range ?z_all
    (case aC_Lost => k_is); (case aC_Won => k_is); (case i_Lost => k_is); (case ty_Lost => k_is); (case su_Lost_Lost => k_is); (case i_Won => k_is)
    (case ty_Won => k_is); (case su_Won_Won => k_is); (case su_Lost_Won => k_is); (case ha_Lost => k_is); (case hm_Lost => k_is); (case su_Won_Lost => k_is)
    (case ha_Won => k_is); (case hm_Won => k_is); (case hn => k_is); (case htk => k_is); (case a_is_whole => k_is); (case l_is_whole => k_is)
    (case c_is_whole => k_is); (case k_is_whole => k_is); (case a_is_pair => k_is); (case l_is_pair => k_is); (case c_is_pair => k_is); (case k_is_pair => k_is)
    (case a_check_bound => k_is); (case l_check_bound => k_is); (case c_check_bound => k_is); (case k_check_bound => k_is); (case a_check_heaps => k_is); (case l_check_heaps => k_is)
    (case c_check_heaps => k_is); (case k_check_heaps => k_is); (case a_may_be => k_is); (case l_may_be => k_is); (case c_may_be => k_is); (case k_may_be => k_is)
    (case a_root_of => k_is); (case l_root_of => k_is); (case c_root_of => k_is); (case k_root_of => k_is); (case a_lesser_of => k_is); (case l_lesser_of => k_is)
    (case c_lesser_of => k_is); (case k_lesser_of => k_is); (case a_pair_of => k_is); (case l_pair_of => k_is); (case c_pair_of => k_is); (case k_pair_of => k_is)
    (case a_place_of => k_is); (case l_place_of => k_is); (case c_place_of => k_is); (case k_place_of => k_is); (case a_is_lost => k_is); (case l_is_lost => k_is)
    (case c_is_lost => k_is); (case k_is_lost => k_is); (case a_Lost_init => k_is); (case i_Lost_init => k_is); (case l_Lost_init => k_is); (case c_Lost_init => k_is)
    (case k_Lost_init => k_is); (case a_Lost_shows => k_is); (case i_Lost_shows => k_is); (case l_Lost_shows => k_is); (case c_Lost_shows => k_is); (case k_Lost_shows => k_is)
    (case a_Won_init => k_is); (case i_Won_init => k_is); (case l_Won_init => k_is); (case c_Won_init => k_is); (case k_Won_init => k_is); (case a_Won_shows => k_is)
    (case i_Won_shows => k_is); (case l_Won_shows => k_is); (case c_Won_shows => k_is); (case k_Won_shows => k_is); (case a_taking_of => k_is); (case l_taking_of => k_is)
    (case c_taking_of => k_is); (case k_taking_of => k_is); (case a_told => k_is); (case l_told => k_is); (case c_told => k_is); (case k_told => k_is)
    (case a__law_cell_at => k_is); (case l__law_cell_at => k_is); (case c__law_cell_at => k_is); (case k__law_cell_at => k_is); (case a__law_draw => k_is); (case l__law_draw => k_is)
    (case c__law_draw => k_is); (case k__law_draw => k_is); (case a__law_number => k_is); (case l__law_number => k_is); (case c__law_number => k_is); (case k__law_number => k_is)
    (case a__law_root => k_is); (case l__law_root => k_is); (case c__law_root => k_is); (case k__law_root => k_is); (case a__law_pair => k_is); (case l__law_pair => k_is)
    (case c__law_pair => k_is); (case k__law_pair => k_is); (case a__law_lost => k_is); (case l__law_lost => k_is); (case c__law_lost => k_is); (case k__law_lost => k_is)
    (case a__law_may => k_is); (case l__law_may => k_is); (case c__law_may => k_is); (case k__law_may => k_is); (case a__law_bound => k_is); (case l__law_bound => k_is)
    (case c__law_bound => k_is); (case k__law_bound => k_is); (case a__law_heaps => k_is); (case l__law_heaps => k_is); (case c__law_heaps => k_is); (case k__law_heaps => k_is)
    (case a__law_says => k_is); (case l__law_says => k_is); (case c__law_says => k_is); (case k__law_says => k_is); (case a__law_lost_right => k_is); (case l__law_lost_right => k_is)
    (case c__law_lost_right => k_is); (case k__law_lost_right => k_is); (case a__law_won_right => k_is); (case l__law_won_right => k_is); (case c__law_won_right => k_is); (case k__law_won_right => k_is)
    (case a_law => k_is); (case l_law => k_is); (case c_law => k_is); (case k_law => k_is); (case pg_Lost => k_is); (case hd_Lost => k_is)
    (case po_Lost => k_is); (case sa_Lost => k_is); (case mk_Lost => k_is); (case kc_Lost => k_is); (case nf_Lost_number => k_is); (case pg_Won => k_is)
    (case hd_Won => k_is); (case po_Won => k_is); (case sa_Won => k_is); (case mk_Won => k_is); (case kc_Won => k_is); (case nf_Won_taking => k_is)
    (case z_isinstance => k_is); (case z_len => k_is); (case z_max => k_is); (case z_min => k_is); (case z_abs => k_is); (case z_int => k_is)
    (case z_bool => k_is); (case z_tuple => k_is); (case z_range => k_is); (case z_all => k_is)
