import PyProof.Rows.All
import Wide.All
import OpenK.AllK
import Wide.FinOn
import HandS.ForMost
import HandS.ForExc
import HandS.Style
import HandS.WideBits
import HandS.IsInst
import HandS.Codes
import KE.DatumOrd
import HandS.EndBits
import PySem.Challenge.RW_twoheaps_k02_whole_pairs

set_option Elab.async false
set_option linter.all false
set_option maxRecDepth 100000
set_option maxHeartbeats 1000000
set_option exponentiation.threshold 10000

/-! Two heaps: the mathematics, plain Lean, no program in sight. -/
namespace TH

/-! ### the root -/
def isqGo (n : Nat) : Nat → Nat
  | 0 => 0
  | k + 1 => if (k + 1) * (k + 1) ≤ n then k + 1 else isqGo n k
def isq (n : Nat) : Nat := isqGo n n
theorem isqGo_sq (n k : Nat) : isqGo n k * isqGo n k ≤ n := by
  induction k with
  | zero => simp [isqGo]
  | succ k ih => unfold isqGo; split <;> assumption
theorem isqGo_lt (n k : Nat) (h : n < (k + 1) * (k + 1)) : n < (isqGo n k + 1) * (isqGo n k + 1) := by
  induction k with
  | zero => simpa [isqGo] using h
  | succ k ih =>
    unfold isqGo
    split
    · exact h
    · exact ih (by omega)
theorem isq_sq (n : Nat) : isq n * isq n ≤ n := isqGo_sq n n
theorem isq_lt (n : Nat) : n < (isq n + 1) * (isq n + 1) := isqGo_lt n n (by
  have : (n + 1) * (n + 1) = n * n + n + n + 1 := by grind
  omega)
/-- the root of a whole number -/
def rt (n : Int) : Int := (isq n.toNat : Int)
theorem rt_nn (n : Int) : 0 ≤ rt n := Int.natCast_nonneg _
theorem rt_sq {n : Int} (h : 0 ≤ n) : rt n * rt n ≤ n := by
  have := isq_sq n.toNat
  have e : ((n.toNat : Nat) : Int) = n := Int.toNat_of_nonneg h
  unfold rt
  rw [← Int.natCast_mul]
  omega
theorem rt_lt {n : Int} (h : 0 ≤ n) : n < (rt n + 1) * (rt n + 1) := by
  have := isq_lt n.toNat
  have e : ((n.toNat : Nat) : Int) = n := Int.toNat_of_nonneg h
  unfold rt
  have e2 : ((isq n.toNat : Int) + 1) * ((isq n.toNat : Int) + 1) = (((isq n.toNat + 1) * (isq n.toNat + 1) : Nat) : Int) := by
    simp only [Int.natCast_mul, Int.natCast_add]; rfl
  rw [e2]
  omega
theorem sq_mono {a b : Int} (h0 : 0 ≤ a) (h : a ≤ b) : a * a ≤ b * b := by
  have h1 : a * a ≤ a * b := Int.mul_le_mul_of_nonneg_left h h0
  have h2 : a * b ≤ b * b := Int.mul_le_mul_of_nonneg_right h (by omega)
  omega
theorem sq_lt_imp {a b : Int} (hb : 0 ≤ b) (h : a * a < b * b) : a < b := by
  have := fun z : b ≤ a => sq_mono hb z
  omega
theorem rt_uniq {n r : Int} (hn : 0 ≤ n) (hr : 0 ≤ r) (h1 : r * r ≤ n) (h2 : n < (r + 1) * (r + 1)) : rt n = r := by
  have a := rt_sq hn
  have b := rt_lt hn
  have c := rt_nn n
  have d := sq_lt_imp (a := rt n) (b := r + 1) (by omega) (by omega)
  have e := sq_lt_imp (a := r) (b := rt n + 1) (by omega) (by omega)
  omega
theorem rt_le {n r : Int} (hn : 0 ≤ n) (hr : 0 ≤ r) (h : n < (r + 1) * (r + 1)) : rt n ≤ r := by
  have a := rt_sq hn
  have d := sq_lt_imp (a := rt n) (b := r + 1) (by omega) (by omega)
  omega
theorem le_rt {n r : Int} (hn : 0 ≤ n) (h : r * r ≤ n) : r ≤ rt n := by
  have b := rt_lt hn
  have c := rt_nn n
  have e := sq_lt_imp (a := r) (b := rt n + 1) (by omega) (by omega)
  omega
/-- a turn of the root's loop stays above -/
theorem newton_ge {n x : Int} (hn : 0 ≤ n) (hx : 0 < x) : rt n ≤ (x + n / x) / 2 := by
  have a := rt_sq hn
  have c := rt_nn n
  have k : 2 * rt n - x ≤ n / x := by
    rw [Int.le_ediv_iff_mul_le hx]
    have q : 0 ≤ (rt n - x) * (rt n - x) := by
      rcases Int.le_total (rt n) x with h | h
      · have := Int.mul_nonneg (show 0 ≤ x - rt n by omega) (show 0 ≤ x - rt n by omega)
        grind
      · exact Int.mul_nonneg (by omega) (by omega)
    grind
  omega
theorem newton_lt {n x : Int} (hx : 0 < x) (h : n < x * x) : (x + n / x) / 2 < x := by
  have : n / x < x := Int.ediv_lt_of_lt_mul hx h
  omega
theorem newton_nn {n x : Int} (hn : 0 ≤ n) (hx : 0 < x) : 0 ≤ (x + n / x) / 2 := by
  have := Int.ediv_nonneg hn (Int.le_of_lt hx)
  omega

theorem newton {n x : Int} (hn : 0 ≤ n) (h0 : 0 ≤ x) (hx : rt n ≤ x) (h : n < x * x) : 0 < x ∧ 0 ≤ (x + n / x) / 2 ∧ rt n ≤ (x + n / x) / 2 ∧ (x + n / x) / 2 < x := by
  have p : 0 < x := by
    rcases Int.lt_or_eq_of_le h0 with z | z
    · exact z
    · subst z
      simp at h
      omega
  exact ⟨p, newton_nn hn p, newton_ge hn p, newton_lt p h⟩
theorem newton_end {n x : Int} (hn : 0 ≤ n) (hx : rt n ≤ x) (h : ¬ n < x * x) : x = rt n := by
  have := le_rt hn (show x * x ≤ n by omega)
  omega
theorem pow_cast (k : Nat) : ((2 ^ k : Nat) : Int) = (2 : Int) ^ k := by rw [Int.natCast_pow]; rfl
theorem newton_start {n : Int} {b : Nat} (hn : 0 ≤ n) (h : n.natAbs < 2 ^ b) : 0 ≤ (1 : Int) * 2 ^ (((b : Int) + 1) / 2).toNat ∧ rt n ≤ 1 * 2 ^ (((b : Int) + 1) / 2).toNat := by
  have e : (((b : Int) + 1) / 2).toNat = (b + 1) / 2 := by omega
  rw [e, Int.one_mul, ← pow_cast]
  refine ⟨Int.natCast_nonneg _, ?_⟩
  have a := rt_sq hn
  have c : n.natAbs < 2 ^ ((b + 1) / 2) * 2 ^ ((b + 1) / 2) := by
    rw [← Nat.pow_add]
    exact Nat.lt_of_lt_of_le h (Nat.pow_le_pow_right (by decide) (by omega))
  have d : n < ((2 ^ ((b + 1) / 2) : Nat) : Int) * ((2 ^ ((b + 1) / 2) : Nat) : Int) := by
    rw [← Int.natCast_mul]
    omega
  exact Int.le_of_lt (sq_lt_imp (Int.natCast_nonneg _) (by omega))

/-! ### the form -/
/-- negative up to the pair's share of its number, positive beyond -/
def q (t j n : Int) : Int := j * j + t * j * n - n * n
theorem q_none_nat (t : Nat) (ht : 1 ≤ t) : ∀ (n j : Nat), j * j + t * j * n = n * n → n = 0 := by
  intro n
  induction n using Nat.strongRecOn with
  | _ n ih =>
    intro j h
    by_cases hn : n = 0
    · exact hn
    exfalso
    have hj : 0 < j := by
      rcases Nat.eq_zero_or_pos j with z | z
      · subst z
        have h2 : n * n = 0 := by simpa using h.symm
        rcases Nat.mul_eq_zero.mp h2 with z | z <;> omega
      · exact z
    have hlt : j < n := by
      rcases Nat.lt_or_ge j n with z | z
      · exact z
      · exfalso
        have h1 : n * n ≤ j * j := Nat.mul_le_mul z z
        have h2 : 0 < t * j * n := Nat.mul_pos (Nat.mul_pos (by omega) hj) (by omega)
        omega
    have htj : t * j < n := by
      rcases Nat.lt_or_ge (t * j) n with z | z
      · exact z
      · exfalso
        have h1 : n * n ≤ t * j * n := Nat.mul_le_mul_right n z
        have h2 : 0 < j * j := Nat.mul_pos hj hj
        omega
    obtain ⟨i, hi⟩ : ∃ i, n = t * j + i := ⟨n - t * j, by omega⟩
    have := ih j hlt i (by
      subst hi
      grind)
    omega
theorem q_none {t j n : Int} (ht : 1 ≤ t) (hj : 0 ≤ j) (hn : 0 ≤ n) (h : q t j n = 0) : n = 0 := by
  obtain ⟨a, rfl⟩ := Int.eq_ofNat_of_zero_le (show 0 ≤ t by omega)
  obtain ⟨b, rfl⟩ := Int.eq_ofNat_of_zero_le hj
  obtain ⟨c, rfl⟩ := Int.eq_ofNat_of_zero_le hn
  have := q_none_nat a (by omega) c b (by
    unfold q at h
    have e : ((b * b + a * b * c : Nat) : Int) = ((c * c : Nat) : Int) := by
      simp only [Int.natCast_mul, Int.natCast_add]
      omega
    exact Int.ofNat.inj e)
  omega
/-- what is below the share, and what beyond -/
theorem q_cmp {t j n j' n' : Int} (ht : 1 ≤ t) (hj' : 0 ≤ j') (hn : 0 ≤ n) (hn' : 0 < n') (h : q t j n < 0) (h' : 0 < q t j' n') : j * n' < j' * n := by
  rcases Int.lt_or_le (j * n') (j' * n) with z | z
  · exact z
  · exfalso
    have p0 : 0 ≤ j' * n := Int.mul_nonneg hj' hn
    have p1 : (j' * n) * (j' * n) ≤ (j * n') * (j * n') := sq_mono p0 z
    have p2 : (j' * n) * (t * (n * n')) ≤ (j * n') * (t * (n * n')) := Int.mul_le_mul_of_nonneg_right z (Int.mul_nonneg (by omega) (Int.mul_nonneg hn (by omega)))
    have p3 : n' * n' * q t j n < 0 := Int.mul_neg_of_pos_of_neg (Int.mul_pos hn' hn') h
    have p4 : 0 ≤ n * n * q t j' n' := Int.mul_nonneg (Int.mul_nonneg hn hn) (by omega)
    unfold q at p3 p4
    grind

/-! ### the lost pairs -/
/-- the lesser number of the lost pair n -/
def les (t n : Int) : Int := (n * (2 - t) + rt (n * n * (t * t + 4))) / 2
/-- the other number -/
def oth (t n : Int) : Int := les t n + t * n
/-- in which pair a number is -/
def fnd (t k : Int) : Int := (rt (k * k * (t * t + 4)) + k * (t - 2)) / (2 * t) + 1
def plc (t k : Int) : Int := if les t (fnd t k) = k then fnd t k else k - fnd t k + 1

theorem disc_nn (t n : Int) : 0 ≤ n * n * (t * t + 4) := by
  have h : ∀ x : Int, 0 ≤ x * x := fun x => by
    rcases Int.le_total 0 x with z | z
    · exact Int.mul_nonneg z z
    · exact Int.mul_nonneg_of_nonpos_of_nonpos z z
  exact Int.mul_nonneg (h n) (by have := h t; omega)
theorem rt_disc_ge {t n : Int} (ht : 0 ≤ t) (hn : 0 ≤ n) : n * t ≤ rt (n * n * (t * t + 4)) := by
  apply le_rt (disc_nn t n)
  have := Int.mul_nonneg hn hn
  grind
theorem les_spec {t n : Int} (ht : 1 ≤ t) (hn : 1 ≤ n) : 0 ≤ les t n - n ∧ q t (les t n - n) n < 0 ∧ 0 < q t (les t n - n + 1) n := by
  have d := disc_nn t n
  have a := rt_sq d
  have b := rt_lt d
  have c := rt_disc_ge (t := t) (n := n) (by omega) (by omega)
  have hs : 0 ≤ rt (n * n * (t * t + 4)) := rt_nn _
  have e : les t n = (n * (2 - t) + rt (n * n * (t * t + 4))) / 2 := rfl
  generalize rt (n * n * (t * t + 4)) = s at *
  generalize les t n = L at *
  have e1 : n * (2 - t) = 2 * n - n * t := by grind
  rw [e1] at e
  have hnt : 1 * 1 ≤ n * t := Int.mul_le_mul hn ht (by omega) (by omega)
  obtain ⟨j, rfl⟩ : ∃ j, L = n + j := ⟨L - n, by omega⟩
  have u1 : 2 * j + n * t ≤ s := by omega
  have u2 : s + 1 ≤ 2 * (j + 1) + n * t := by omega
  have hj : 0 ≤ j := by omega
  have k1 : (2 * j + n * t) * (2 * j + n * t) ≤ s * s := sq_mono (by omega) u1
  have k2 : (s + 1) * (s + 1) ≤ (2 * (j + 1) + n * t) * (2 * (j + 1) + n * t) := sq_mono (by omega) u2
  have f1 : q t j n ≤ 0 := by unfold q; grind
  have f2 : 0 < q t (j + 1) n := by unfold q; grind
  have f3 : q t j n ≠ 0 := fun z => by
    have := q_none ht hj (by omega) z
    omega
  rw [show n + j - n = j by omega]
  exact ⟨hj, by omega, f2⟩
theorem les_of {t n j : Int} (ht : 1 ≤ t) (hn : 1 ≤ n) (hj : 0 ≤ j) (h1 : q t j n < 0) (h2 : 0 < q t (j + 1) n) : les t n = n + j := by
  obtain ⟨a, b, c⟩ := les_spec ht hn
  have x := q_cmp ht (show 0 ≤ j + 1 by omega) (by omega) (by omega) b h2
  have y := q_cmp ht (show 0 ≤ les t n - n + 1 by omega) (by omega) (by omega) h1 c
  have x' := Int.lt_of_mul_lt_mul_right x (by omega)
  have y' := Int.lt_of_mul_lt_mul_right y (by omega)
  omega
theorem rt0 : rt 0 = 0 := rfl
theorem les0 (t : Int) : les t 0 = 0 := by
  unfold les
  simp [rt0]
theorem oth0 (t : Int) : oth t 0 = 0 := by
  unfold oth
  rw [les0]
  omega
theorem les_ge {t n : Int} (ht : 1 ≤ t) (hn : 0 ≤ n) : n ≤ les t n := by
  rcases Int.lt_or_le 0 n with z | z
  · have := (les_spec ht (show 1 ≤ n by omega)).1
    omega
  · have : n = 0 := by omega
    subst this
    rw [les0]
    omega
theorem les_mono {t n m : Int} (ht : 1 ≤ t) (hn : 0 ≤ n) (h : n < m) : les t n < les t m := by
  obtain ⟨a', b', c'⟩ := les_spec ht (show 1 ≤ m by omega)
  rcases Int.lt_or_le 0 n with z | z
  · obtain ⟨a, b, c⟩ := les_spec ht (show 1 ≤ n by omega)
    have x := q_cmp ht (show 0 ≤ les t m - m + 1 by omega) (by omega) (by omega) b c'
    have y : (les t n - n) * m < (les t m - m + 1) * m := Int.lt_of_lt_of_le x (Int.mul_le_mul_of_nonneg_left (by omega) (by omega))
    have x' := Int.lt_of_mul_lt_mul_right y (by omega)
    omega
  · have : n = 0 := by omega
    subst this
    rw [les0]
    omega
theorem les_inj {t n m : Int} (ht : 1 ≤ t) (hn : 0 ≤ n) (hm : 0 ≤ m) (h : les t n = les t m) : n = m := by
  rcases Int.lt_trichotomy n m with z | z | z
  · have := les_mono ht hn z; omega
  · exact z
  · have := les_mono ht hm z; omega
theorem oth_mono {t n m : Int} (ht : 1 ≤ t) (hn : 0 ≤ n) (h : n < m) : oth t n < oth t m := by
  have a := les_mono ht hn h
  have b := Int.mul_le_mul_of_nonneg_left (show n ≤ m by omega) (show 0 ≤ t by omega)
  unfold oth
  omega
theorem oth_inj {t n m : Int} (ht : 1 ≤ t) (hn : 0 ≤ n) (hm : 0 ≤ m) (h : oth t n = oth t m) : n = m := by
  rcases Int.lt_trichotomy n m with z | z | z
  · have := oth_mono ht hn z; omega
  · exact z
  · have := oth_mono ht hm z; omega
theorem les_le_oth {t n : Int} (ht : 1 ≤ t) (hn : 0 ≤ n) : les t n ≤ oth t n := by
  have := Int.mul_nonneg (show 0 ≤ t by omega) hn
  unfold oth
  omega
theorem les_lt_oth {t n : Int} (ht : 1 ≤ t) (hn : 0 < n) : les t n < oth t n := by
  have := Int.mul_pos (show 0 < t by omega) hn
  unfold oth
  omega
/-- no lesser number is another pair's greater one -/
theorem les_ne_oth {t n m : Int} (ht : 1 ≤ t) (hn : 1 ≤ n) (hm : 1 ≤ m) : les t n ≠ oth t m := by
  intro h
  obtain ⟨a, b, c⟩ := les_spec ht hn
  obtain ⟨a', b', c'⟩ := les_spec ht hm
  unfold oth at h
  have tm : 0 ≤ t * m := Int.mul_nonneg (by omega) (by omega)
  generalize les t n = x at *
  generalize les t m = y at *
  obtain ⟨j, rfl⟩ : ∃ j, x = n + j := ⟨x - n, by omega⟩
  obtain ⟨i, rfl⟩ : ∃ i, y = m + i := ⟨y - m, by omega⟩
  rw [show n + j - n = j by omega] at *
  rw [show m + i - m = i by omega] at *
  -- n' = i + t m : q m n' > 0 > q m (n' + 1)
  have p1 : 0 < q t m (i + t * m) := by unfold q at b' ⊢; grind
  have p2 : q t m (i + t * m + 1) < 0 := by unfold q at c' ⊢; grind
  have hn'0 : 0 < i + t * m := by
    have : 1 * 1 ≤ t * m := Int.mul_le_mul ht hm (by omega) (by omega)
    omega
  rcases Int.lt_or_le (i + t * m) n with z | z
  · have x1 := q_cmp ht (show 0 ≤ j + 1 by omega) (by omega) (by omega) p2 c
    have x2 : m * n < (j + 1) * n := Int.lt_of_lt_of_le x1 (Int.mul_le_mul_of_nonneg_left (by omega) (by omega))
    have x3 := Int.lt_of_mul_lt_mul_right x2 (by omega)
    omega
  · have x1 := q_cmp ht (show 0 ≤ m by omega) (by omega) hn'0 b p1
    have x2 : j * (i + t * m) < m * (i + t * m) := Int.lt_of_lt_of_le x1 (Int.mul_le_mul_of_nonneg_left z (by omega))
    have x3 := Int.lt_of_mul_lt_mul_right x2 (by omega)
    omega
/-- a number is in a pair -/
def inp (t n x : Int) : Prop := les t n = x ∨ oth t n = x
theorem inp_one {t n m x : Int} (ht : 1 ≤ t) (hn : 0 ≤ n) (hm : 0 ≤ m) (hx : 1 ≤ x) (h1 : inp t n x) (h2 : inp t m x) : n = m := by
  have p : ∀ {k}, 0 ≤ k → inp t k x → 1 ≤ k := by
    intro k hk h
    rcases Int.lt_or_le 0 k with z | z
    · omega
    · have : k = 0 := by omega
      subst this
      unfold inp at h
      rw [les0, oth0] at h
      omega
  have pn := p hn h1
  have pm := p hm h2
  rcases h1 with h1 | h1 <;> rcases h2 with h2 | h2
  · exact les_inj ht hn hm (by omega)
  · exact absurd (h1.trans h2.symm) (les_ne_oth ht pn pm)
  · exact absurd (h2.trans h1.symm) (les_ne_oth ht pm pn)
  · exact oth_inj ht hn hm (by omega)
theorem fnd_spec {t k : Int} (ht : 1 ≤ t) (hk : 1 ≤ k) : 1 ≤ fnd t k ∧ 0 < q t (k - (fnd t k - 1)) (fnd t k - 1) ∧ q t (k - fnd t k) (fnd t k) < 0 := by
  have d := disc_nn t k
  have a := rt_sq d
  have b := rt_lt d
  have c := rt_disc_ge (t := t) (n := k) (by omega) (by omega)
  have hs : 0 ≤ rt (k * k * (t * t + 4)) := rt_nn _
  have e : fnd t k = (rt (k * k * (t * t + 4)) + k * (t - 2)) / (2 * t) + 1 := rfl
  generalize rt (k * k * (t * t + 4)) = s at *
  generalize fnd t k = F at *
  have ekt : k * (t - 2) = k * t - 2 * k := by grind
  have hkt : k * 1 ≤ k * t := Int.mul_le_mul_of_nonneg_left ht (by omega)
  have h0 : 0 ≤ s + k * (t - 2) := by omega
  have hpos : (0 : Int) < 2 * t := by omega
  have e0 : F - 1 = (s + k * (t - 2)) / (2 * t) := by omega
  have hF : 0 ≤ F - 1 := by
    rw [e0]
    exact Int.ediv_nonneg h0 (by omega)
  have l1 : (F - 1) * (2 * t) ≤ s + k * (t - 2) := by
    rw [e0]
    exact Int.ediv_mul_le _ (by omega)
  have l2 : s + k * (t - 2) < F * (2 * t) := by
    have := Int.lt_ediv_add_one_mul_self (s + k * (t - 2)) hpos
    rw [← e0] at this
    rwa [show F - 1 + 1 = F by omega] at this
  obtain ⟨n, rfl⟩ : ∃ n, F = n + 1 := ⟨F - 1, by omega⟩
  rw [show n + 1 - 1 = n by omega] at *
  -- v = 2 t n - (t - 2) k is within
  have v1 : 2 * t * n - (t - 2) * k ≤ s := by grind
  have tn : 0 ≤ t * n := Int.mul_nonneg (by omega) hF
  have v2 : -(k * t) ≤ 2 * t * n - (t - 2) * k := by grind
  have v3 : s + 1 ≤ 2 * t * (n + 1) - (t - 2) * k := by grind
  have hkk : 0 < k * k := Int.mul_pos (by omega) (by omega)
  have w1 : (2 * t * n - (t - 2) * k) * (2 * t * n - (t - 2) * k) ≤ k * k * (t * t + 4) := by
    rcases Int.le_total 0 (2 * t * n - (t - 2) * k) with z | z
    · have := sq_mono z v1
      omega
    · have := sq_mono (a := -(2 * t * n - (t - 2) * k)) (b := k * t) (by omega) (by omega)
      grind
  have w2 : (s + 1) * (s + 1) ≤ (2 * t * (n + 1) - (t - 2) * k) * (2 * t * (n + 1) - (t - 2) * k) := sq_mono (by omega) v3
  have i1 : 0 ≤ t * q t (k - n) n := by unfold q; grind
  have i2 : t * q t (k - (n + 1)) (n + 1) < 0 := by unfold q; grind
  have j1 : 0 ≤ q t (k - n) n := by
    rcases Int.lt_or_le (q t (k - n) n) 0 with z | z
    · have := Int.mul_neg_of_pos_of_neg (show 0 < t by omega) z
      omega
    · exact z
  have j2 : q t (k - (n + 1)) (n + 1) < 0 := by
    rcases Int.lt_or_le (q t (k - (n + 1)) (n + 1)) 0 with z | z
    · exact z
    · have := Int.mul_nonneg (show 0 ≤ t by omega) z
      omega
  have hm : 0 ≤ k - n := by
    rcases Int.lt_or_le k n with z | z
    · exfalso
      have y1 : t * (n * (k - n)) ≤ 0 := Int.mul_nonpos_of_nonneg_of_nonpos (by omega) (Int.mul_nonpos_of_nonneg_of_nonpos hF (by omega))
      have y2 : k * k < k * n := Int.mul_lt_mul_of_pos_left z (by omega)
      unfold q at j1
      grind
    · omega
  refine ⟨by omega, ?_, j2⟩
  rcases Int.lt_or_eq_of_le j1 with z | z
  · exact z
  · exfalso
    have n0 := q_none ht hm hF z.symm
    subst n0
    unfold q at z
    grind
/-- each number above 0 is in the pair that is told -/
theorem plc_ok {t k : Int} (ht : 1 ≤ t) (hk : 1 ≤ k) : 1 ≤ plc t k ∧ inp t (plc t k) k := by
  obtain ⟨a, b, c⟩ := fnd_spec ht hk
  unfold plc
  by_cases h : les t (fnd t k) = k
  · rw [if_pos h]
    exact ⟨a, .inl h⟩
  · rw [if_neg h]
    obtain ⟨a1, b1, c1⟩ := les_spec ht a
    generalize fnd t k = F at *
    obtain ⟨n, rfl⟩ : ∃ n, F = n + 1 := ⟨F - 1, by omega⟩
    rw [show n + 1 - 1 = n by omega] at *
    -- k < F α, so the lesser number of F is k or more
    have hge : k ≤ les t (n + 1) := by
      rcases Int.lt_or_le (les t (n + 1)) k with z | z
      · exfalso
        -- les - F + 1 ≤ k - F, yet the form is positive there
        have y := q_cmp ht (show 0 ≤ les t (n + 1) - (n + 1) + 1 by omega) (by omega) (by omega) c c1
        have y' := Int.lt_of_mul_lt_mul_right y (by omega)
        omega
      · exact z
    -- m = k - n
    have p2 : q t (k - n) (n + 1) < 0 := by
      rcases Int.lt_or_le (q t (k - n) (n + 1)) 0 with z | z
      · exact z
      · exfalso
        have hkn : 0 ≤ k - n := by
          rcases Int.lt_or_le k n with z | z
          · exfalso
            have y1 : t * (n * (k - n)) ≤ 0 := Int.mul_nonpos_of_nonneg_of_nonpos (by omega) (Int.mul_nonpos_of_nonneg_of_nonpos (by omega) (by omega))
            have y2 : k * k < k * n := Int.mul_lt_mul_of_pos_left z (by omega)
            have y3 : 0 < k * k := Int.mul_pos (by omega) (by omega)
            unfold q at b
            grind
          · omega
        rcases Int.lt_or_eq_of_le z with z | z
        · have y := q_cmp ht hkn (by omega) (by omega) b1 z
          have y' := Int.lt_of_mul_lt_mul_right y (by omega)
          omega
        · have := q_none ht hkn (by omega) z.symm
          omega
    have hm : 1 ≤ k - n := by
      rcases Int.lt_or_le n k with z | z
      · omega
      · exfalso
        have y1 : t * (n * (k - n)) ≤ 0 := Int.mul_nonpos_of_nonneg_of_nonpos (by omega) (Int.mul_nonpos_of_nonneg_of_nonpos (by omega) (by omega))
        have y2 : k * k ≤ k * n := Int.mul_le_mul_of_nonneg_left z (by omega)
        have y3 : 0 < k * k := Int.mul_pos (by omega) (by omega)
        unfold q at b
        grind
    obtain ⟨m, rfl⟩ : ∃ m, k = m + n := ⟨k - n, by omega⟩
    rw [show m + n - n = m by omega] at *
    have htm : t * m ≤ n := by
      rcases Int.lt_or_le n (t * m) with z | z
      · exfalso
        have y1 : (n + 1) * (n + 1) ≤ t * m * (n + 1) := Int.mul_le_mul_of_nonneg_right (by omega) (by omega)
        have y2 : 0 < m * m := Int.mul_pos (by omega) (by omega)
        unfold q at p2
        omega
      · exact z
    have r1 : q t (n - t * m) m < 0 := by unfold q at b ⊢; grind
    have r2 : 0 < q t (n - t * m + 1) m := by unfold q at p2 ⊢; grind
    have e := les_of ht hm (show 0 ≤ n - t * m by omega) r1 r2
    refine ⟨by omega, .inr ?_⟩
    rw [show m + n - (n + 1) + 1 = m by omega]
    unfold oth
    omega
theorem plc_eq {t n x : Int} (ht : 1 ≤ t) (hn : 0 ≤ n) (hx : 1 ≤ x) (h : inp t n x) : plc t x = n := by
  obtain ⟨a, b⟩ := plc_ok ht hx
  exact inp_one ht (by omega) hn hx b h
theorem les_le {t n : Int} (ht : 1 ≤ t) (hn : 0 ≤ n) : les t n ≤ 2 * n := by
  rcases Int.lt_or_le 0 n with z | z
  · obtain ⟨a, b, c⟩ := les_spec ht (show 1 ≤ n by omega)
    have p : 0 < q t n n := by
      have := Int.mul_pos (Int.mul_pos (show 0 < t by omega) z) z
      unfold q
      omega
    have x := q_cmp ht (show 0 ≤ n by omega) (by omega) z b p
    have y := Int.lt_of_mul_lt_mul_right x (by omega)
    omega
  · have : n = 0 := by omega
    subst this
    rw [les0]
    omega
theorem les_nn {t n : Int} (ht : 1 ≤ t) (hn : 0 ≤ n) : 0 ≤ les t n := by
  have := les_ge ht hn
  omega
theorem oth_nn {t n : Int} (ht : 1 ≤ t) (hn : 0 ≤ n) : 0 ≤ oth t n := by
  have := les_nn ht hn
  have := les_le_oth ht hn
  omega
theorem fnd_le {t k : Int} (ht : 1 ≤ t) (hk : 1 ≤ k) : fnd t k ≤ k := by
  obtain ⟨a, b, c⟩ := fnd_spec ht hk
  generalize fnd t k = F at *
  rcases Int.lt_or_le k F with z | z
  · exfalso
    obtain ⟨n, rfl⟩ : ∃ n, F = n + 1 := ⟨F - 1, by omega⟩
    rw [show n + 1 - 1 = n by omega] at *
    have y1 : t * (n * (k - n)) ≤ 0 := Int.mul_nonpos_of_nonneg_of_nonpos (by omega) (Int.mul_nonpos_of_nonneg_of_nonpos (by omega) (by omega))
    have y2 : k * k ≤ k * n := Int.mul_le_mul_of_nonneg_left (by omega) (by omega)
    have y3 : 0 < k * k := Int.mul_pos (by omega) (by omega)
    unfold q at b
    grind
  · exact z
theorem plc_le {t k : Int} (ht : 1 ≤ t) (hk : 1 ≤ k) : plc t k ≤ k := by
  obtain ⟨a, b⟩ := plc_ok ht hk
  have c := les_ge ht (show 0 ≤ plc t k by omega)
  have d := les_le_oth ht (show 0 ≤ plc t k by omega)
  rcases b with b | b <;> omega
end TH

/-! ### rules of our own over the hand layer -/
namespace TH
open PySem PySem.Spec PyProof.Rows L2

/-! #### sizes -/
structure Bd (k : Nat) (i : Int) : Prop where
  out : i.natAbs < 2 ^ k
theorem bd_mono {a b : Nat} {i : Int} (h : Bd a i) (hab : a ≤ b) : Bd b i := ⟨Nat.lt_of_lt_of_le h.out (Nat.pow_le_pow_right (by decide) hab)⟩
theorem bd_mul {a b : Nat} {i j : Int} (ha : Bd a i) (hb : Bd b j) : Bd (a + b) (i * j) := ⟨wide_lt ha.out hb.out⟩
theorem bd_add {a b : Nat} {i j : Int} (ha : Bd a i) (hb : Bd b j) : Bd (max a b + 1) (i + j) := by
  have h1 := (bd_mono ha (Nat.le_max_left a b)).out
  have h2 := (bd_mono hb (Nat.le_max_right a b)).out
  have e : 2 ^ (max a b + 1) = 2 ^ max a b + 2 ^ max a b := by omega
  have h3 := Int.natAbs_add_le i j
  exact ⟨by omega⟩
theorem bd_neg {a : Nat} {i : Int} (ha : Bd a i) : Bd a (-i) := ⟨by
  rw [Int.natAbs_neg]
  exact ha.out⟩
theorem bd_sub {a b : Nat} {i j : Int} (ha : Bd a i) (hb : Bd b j) : Bd (max a b + 1) (i - j) := by
  have h := bd_add ha (bd_neg hb)
  rwa [← Int.sub_eq_add_neg] at h
theorem bd_div {a : Nat} {i j : Int} (ha : Bd a i) (hj : 0 < j) : Bd a (i / j) := by
  have h : (i / j).natAbs ≤ i.natAbs := by
    obtain ⟨k, rfl⟩ := Int.eq_ofNat_of_zero_le (Int.le_of_lt hj)
    exact Int.natAbs_ediv_le_natAbs i k
  exact ⟨Nat.lt_of_le_of_lt h ha.out⟩
theorem bd_mod {b : Nat} {i j : Int} (hb : Bd b j) (hj : 0 < j) : Bd b (i % j) := by
  have h1 := Int.emod_nonneg i (show j ≠ 0 by omega)
  have h2 := Int.emod_lt_of_pos i hj
  have hb' := hb.out
  exact ⟨by omega⟩
theorem bd_le {a : Nat} {i j : Int} (ha : Bd a j) (h0 : 0 ≤ i) (h : i ≤ j) : Bd a i := ⟨wide_le h0 h ha.out⟩
theorem bd_lt {a : Nat} {i : Int} (h0 : 0 ≤ i) (h : i < 2 ^ a) : Bd a i := by
  have e := pow_cast a
  exact ⟨by omega⟩
theorem bd_nn {a : Nat} {i : Int} (h : Bd a i) : i < 2 ^ a := by
  have e := pow_cast a
  have h' := h.out
  omega
theorem bd_lit {i : Int} (h : i.natAbs < 2 ^ 140 := by decide) : Bd 140 i := ⟨h⟩
theorem bd_one : Bd 1 1 := ⟨by decide⟩
theorem bits_lt (i : Int) : i.natAbs < 2 ^ Builtin.Int.intBits i := by
  unfold Builtin.Int.intBits
  split
  · rename_i z
    have : i = 0 := by simpa using z
    subst this
    decide
  · exact Nat.lt_log2_self
theorem bd_bits {i : Int} {k : Nat} (h : Builtin.Int.intBits i ≤ k) : Bd k i := bd_mono (a := Builtin.Int.intBits i) ⟨bits_lt i⟩ h
/-! #### readings that ask more of what follows -/
section
variable {X : Cx}
theorem PE.imp {e : Expr} {t t' : TE} (h : PE X e t) (w : ∀ σ H Q, t' σ H Q → t σ H Q) : PE X e t' := ⟨fun pins s σ H Q I hq => h.run pins s σ H Q I (w σ H Q hq)⟩
theorem PA.mon {es : List Expr} {t : TA} (h : PA X es t) : PA X es (fun σ H R => ∃ R0 : List V → Hp → Prop, (∀ xs H1, R0 xs H1 → R xs H1) ∧ t σ H R0) :=
  ⟨fun pos pins s σ H Q I ⟨R0, m, hq⟩ => thn (h.run pos pins s σ H _ I hq) fun us s1 ⟨xs, H1, I1, r1, q1⟩ => ⟨xs, H1, I1, r1, m _ _ q1⟩⟩
theorem Same.new {H : Hp} {p : Addr} {o : HO} (h : H p = none) : Same H (upd H p o) := fun a u e => by
  rw [upd_ne (ne_of_none e h)]
  exact e
/-- a new tuple, a new list: the heap behind it by what is known of it -/
def tTupA (t : TA) : TE := fun σ H Q => t σ H fun xs H1 => xs.length ≤ 64 ∧ ∀ p H2, H1 p = none → Same H1 H2 → H2 p = some (.tup xs) → Q (.ref p) H2
def tLstA (t : TA) : TE := fun σ H Q => t σ H fun xs H1 => xs.length ≤ 64 ∧ ∀ p H2, H1 p = none → Same H1 H2 → H2 p = some (.lst xs) → Q (.ref p) H2
theorem le64 {n : Nat} (h : Nat.ble n 64 = true) : n ≤ 64 := Nat.le_of_ble_eq_true h
theorem le_line {n : Nat} (h : n ≤ 64) : n ≤ sizeLine := Nat.le_trans h (by decide)
theorem pe_tupA {es : List Expr} {t : TA} {pos x1} (h : PA X es t) : PE X (.Tuple es x1 pos) (tTupA t) :=
  PE.imp (pe_tup (PA.mon h)) fun σ H Q hq => ⟨_, fun xs H1 z => ⟨le_line z.1, fun p hp => z.2 p _ hp (Same.new hp) upd_same⟩, hq⟩
theorem pe_lstA {es : List Expr} {t : TA} {pos} (h : PA X es t) : PE X (.List es pos) (tLstA t) :=
  PE.imp (pe_lst (PA.mon h)) fun σ H Q hq => ⟨_, fun xs H1 z => ⟨le_line z.1, fun p hp => z.2 p _ hp (Same.new hp) upd_same⟩, hq⟩

theorem OpR.imp {f : Value → Value → Sem Value} {r r' : R2} (h : OpR X f r) (w : ∀ x y H Q, r' x y H Q → r x y H Q) : OpR X f r' := fun pins s σ H x y v u Q I rx ry hq => h pins s σ H x y v u Q I rx ry (w _ _ _ _ hq)
theorem CallR.imp {f : Value} {r r' : List V → Hp → VK → Prop} (h : CallR X f r) (w : ∀ xs H Q, r' xs H Q → r xs H Q) : CallR X f r' := fun pins s σ H xs us Q I rx hq => h pins s σ H xs us Q I rx (w _ _ _ hq)

/-! #### operators -/
structure CM (i j : Int) : Prop where
  out : ∃ a b, Bd a i ∧ Bd b j ∧ a + b ≤ 134217728
structure CD (i j : Int) : Prop where
  pos : 0 < j
  bd : Bd 9000 j
theorem cm_ok {i j : Int} {a b : Nat} (ha : Bd a i) (hb : Bd b j) (h : Nat.ble (a + b) 134217728 = true) : CM i j := ⟨⟨a, b, ha, hb, Nat.le_of_ble_eq_true h⟩⟩
theorem cd_ok {i j : Int} {b : Nat} (h0 : 0 < j) (hb : Bd b j) (h : Nat.ble b 9000 = true) : CD i j := ⟨h0, bd_mono hb (Nat.le_of_ble_eq_true h)⟩
theorem bd_mono' {a b : Nat} {i : Int} (h : Bd a i) (hab : Nat.ble a b = true) : Bd b i := bd_mono h (Nat.le_of_ble_eq_true hab)
theorem bd_le64 {α : Type} {xs : List α} (h : Nat.ble xs.length 64 = true) : xs.length ≤ 64 := Nat.le_of_ble_eq_true h
theorem oMul : OpR X (binaryOp .Mult) (rI CM fun i j => .int (i * j)) := OpR.imp op_mulX fun x y H Q ⟨i, j, h1, h2, ⟨a, b, ha, hb, hab⟩, q⟩ => ⟨i, j, h1, h2, mulx_ok ha.out hb.out hab, q⟩
theorem oDiv : OpR X (binaryOp .FloorDiv) (rI CD fun i j => .int (i / j)) := OpR.imp op_fdivW fun x y H Q ⟨i, j, h1, h2, ⟨a, b⟩, q⟩ => ⟨i, j, h1, h2, wide_div a b.out (by decide) (by decide), q⟩
theorem oMod : OpR X (binaryOp .Mod) (rI (fun _ j => 0 < j) fun i j => .int (i % j)) := op_mod
theorem dI (i j : Int) : decide (V.int i = V.int j) = decide (i = j) := by
  by_cases e : i = j
  · subst e; simp
  · rw [decide_eq_false e, decide_eq_false fun z => e (V.int.inj z)]
theorem dB (i j : Bool) : decide (V.bl i = V.bl j) = decide (i = j) := by
  cases i <;> cases j <;> rfl
theorem oEq : OpR X (compareOp .Eq) (rI0 fun i j => .bl (decide (i = j))) := OpR.imp op_eq fun x y H Q ⟨i, j, h1, h2, q⟩ => by
  subst h1 h2
  refine ⟨rfl, ?_⟩
  rw [dI]
  exact q
theorem oNe : OpR X (compareOp .NotEq) (rI0 fun i j => .bl (!decide (i = j))) := OpR.imp op_ne fun x y H Q ⟨i, j, h1, h2, q⟩ => by
  subst h1 h2
  refine ⟨rfl, ?_⟩
  rw [dI]
  exact q
def rBb (g : Bool → Bool → Bool) : R2 := fun x y H Q => ∃ i j, x = .bl i ∧ y = .bl j ∧ Q (.bl (g i j)) H
theorem oEqB : OpR X (compareOp .Eq) (rBb fun i j => decide (i = j)) := OpR.imp op_eq fun x y H Q ⟨i, j, h1, h2, q⟩ => by
  subst h1 h2
  refine ⟨rfl, ?_⟩
  rw [dB]
  exact q
theorem oNeB : OpR X (compareOp .NotEq) (rBb fun i j => !decide (i = j)) := OpR.imp op_ne fun x y H Q ⟨i, j, h1, h2, q⟩ => by
  subst h1 h2
  refine ⟨rfl, ?_⟩
  rw [dB]
  exact q

/-- 10 ** 18, 10 ** 40, 10 ** 60 -/
def rP (e : Int) (z : Int) : R2 := fun x y H Q => x = .int 10 ∧ y = .int e ∧ Q (.int z) H
theorem oP18 : OpR X (binaryOp .Pow) (rP 18 1000000000000000000) := OpR.imp op_pow fun x y H Q ⟨h1, h2, q⟩ => ⟨10, 18, h1, h2, ⟨by decide, by decide, by decide⟩, q⟩
theorem oP40 : OpR X (binaryOp .Pow) (rP 40 10000000000000000000000000000000000000000) := OpR.imp op_pow fun x y H Q ⟨h1, h2, q⟩ => ⟨10, 40, h1, h2, ⟨by decide, by decide, by decide⟩, q⟩
theorem oP60 : OpR X (binaryOp .Pow) (rP 60 1000000000000000000000000000000000000000000000000000000000000) := OpR.imp op_pow fun x y H Q ⟨h1, h2, q⟩ => ⟨10, 60, h1, h2, ⟨by decide, by decide, by decide⟩, q⟩
/-! #### isinstance of built-in types -/
theorem kq_int_int {K : PySem.W.Frag} : PySem.W.kitOne K (.type "int") (.type "int") = some true := kit_ty (by decide +kernel)
theorem kq_int_bool {K : PySem.W.Frag} : PySem.W.kitOne K (.type "int") (.type "bool") = some false := kit_ty (by decide +kernel)
theorem kq_int_tuple {K : PySem.W.Frag} : PySem.W.kitOne K (.type "int") (.type "tuple") = some false := kit_ty (by decide +kernel)
theorem kq_bool_int {K : PySem.W.Frag} : PySem.W.kitOne K (.type "bool") (.type "int") = some true := kit_ty (by decide +kernel)
theorem kq_bool_bool {K : PySem.W.Frag} : PySem.W.kitOne K (.type "bool") (.type "bool") = some true := kit_ty (by decide +kernel)
theorem kq_bool_tuple {K : PySem.W.Frag} : PySem.W.kitOne K (.type "bool") (.type "tuple") = some false := kit_ty (by decide +kernel)
theorem kq_tuple_int {K : PySem.W.Frag} : PySem.W.kitOne K (.type "tuple") (.type "int") = some false := kit_ty (by decide +kernel)
theorem kq_tuple_bool {K : PySem.W.Frag} : PySem.W.kitOne K (.type "tuple") (.type "bool") = some false := kit_ty (by decide +kernel)
theorem kq_tuple_tuple {K : PySem.W.Frag} : PySem.W.kitOne K (.type "tuple") (.type "tuple") = some true := kit_ty (by decide +kernel)
theorem kq_NoneType_int {K : PySem.W.Frag} : PySem.W.kitOne K (.type "NoneType") (.type "int") = some false := kit_ty (by decide +kernel)
theorem kq_NoneType_bool {K : PySem.W.Frag} : PySem.W.kitOne K (.type "NoneType") (.type "bool") = some false := kit_ty (by decide +kernel)
theorem kq_NoneType_tuple {K : PySem.W.Frag} : PySem.W.kitOne K (.type "NoneType") (.type "tuple") = some false := kit_ty (by decide +kernel)
theorem kq_str_int {K : PySem.W.Frag} : PySem.W.kitOne K (.type "str") (.type "int") = some false := kit_ty (by decide +kernel)
theorem kq_str_bool {K : PySem.W.Frag} : PySem.W.kitOne K (.type "str") (.type "bool") = some false := kit_ty (by decide +kernel)
theorem kq_str_tuple {K : PySem.W.Frag} : PySem.W.kitOne K (.type "str") (.type "tuple") = some false := kit_ty (by decide +kernel)
theorem kq_list_int {K : PySem.W.Frag} : PySem.W.kitOne K (.type "list") (.type "int") = some false := kit_ty (by decide +kernel)
theorem kq_list_bool {K : PySem.W.Frag} : PySem.W.kitOne K (.type "list") (.type "bool") = some false := kit_ty (by decide +kernel)
theorem kq_list_tuple {K : PySem.W.Frag} : PySem.W.kitOne K (.type "list") (.type "tuple") = some false := kit_ty (by decide +kernel)
theorem kq_dict_int {K : PySem.W.Frag} : PySem.W.kitOne K (.type "dict") (.type "int") = some false := kit_ty (by decide +kernel)
theorem kq_dict_bool {K : PySem.W.Frag} : PySem.W.kitOne K (.type "dict") (.type "bool") = some false := kit_ty (by decide +kernel)
theorem kq_dict_tuple {K : PySem.W.Frag} : PySem.W.kitOne K (.type "dict") (.type "tuple") = some false := kit_ty (by decide +kernel)
/-! #### the heap's growth -/
theorem same_at {H H' : Hp} {p : Addr} {o : HO} (e : Same H H') (h : H p = some o) : H' p = some o := e _ _ h
theorem same_back {H H1 H2 : Hp} (e : Same H1 H2) (h : Same H H1) : Same H H2 := h.trans e
theorem same_seq {H H' : Hp} {a : Addr} {xs : List V} (e : Same H H') (h : SqL X.K H a xs) : SqL X.K H' a xs := e.seq h
/-! #### pairs -/
/-- at p stands the pair a, b -/
abbrev Pr (H : Hp) (p : Addr) (a b : Int) : Prop := H p = some (.tup [.int a, .int b])
def rPair (g : Int → Int → V) : List V → Hp → VK → Prop := fun xs H Q => ∃ (p : Addr) (a b : Int), xs = [.ref p] ∧ Pr H p a b ∧ Q (g a b) H
theorem pair_holds {h : Heap} {a b : Int} {its : List Value} (r : Vals [.int a, .int b] its) : PySem.W.HoldAll h its ([a, b] : List Int) := by
  cases r with
  | cons r1 r =>
    cases r with
    | cons r2 r =>
      cases r
      obtain ⟨t1, rfl⟩ := r1
      obtain ⟨t2, rfl⟩ := r2
      exact .cons ⟨_, .int _ _⟩ (.cons ⟨_, .int _ _⟩ .nil)
theorem cMinP (hc : X.calm = true) (hu : X.A.units + 1 < cLine) : CallR X (.builtin "min") (rPair fun a b => .int (min a b)) := by
  intro pins s σ H vs us Q I r h
  obtain ⟨p, a, b, rfl, hp, q⟩ := h
  obtain ⟨its, rv, hl, _⟩ := I.tuple (SqT.of hp)
  rw [Vals.ref1 r]
  obtain ⟨o, h1, h2, h3⟩ := hl
  refine PySem.W.min_tuple_datum (α := Int) (I.ok.hd hc) (x := a) (xs := [b]) ⟨o, h1, h2, h3⟩ (by simpa using pair_holds rv) hu fun i v h' tk hi hv hk => ?_
  obtain ⟨as, ra⟩ := hv
  obtain ⟨t, rfl, _⟩ := reads_int_inv ra
  refine ⟨.int _, H, I.kept hk, ⟨_, rfl⟩, ?_⟩
  have e : PySem.W.minOf a [b] = min a b := by
    show (if decide (b < a) = true then b else a) = min a b
    split <;> simp_all <;> omega
  rw [e]
  exact q
theorem cMaxP (hc : X.calm = true) (hu : X.A.units + 1 < cLine) : CallR X (.builtin "max") (rPair fun a b => .int (max a b)) := by
  intro pins s σ H vs us Q I r h
  obtain ⟨p, a, b, rfl, hp, q⟩ := h
  obtain ⟨its, rv, hl, _⟩ := I.tuple (SqT.of hp)
  rw [Vals.ref1 r]
  obtain ⟨o, h1, h2, h3⟩ := hl
  refine PySem.W.max_tuple_datum (α := Int) (I.ok.hd hc) (x := a) (xs := [b]) ⟨o, h1, h2, h3⟩ (by simpa using pair_holds rv) hu fun i v h' tk hi hv hk => ?_
  obtain ⟨as, ra⟩ := hv
  obtain ⟨t, rfl, _⟩ := reads_int_inv ra
  refine ⟨.int _, H, I.kept hk, ⟨_, rfl⟩, ?_⟩
  have e : PySem.W.maxOf a [b] = max a b := by
    show (if decide (a < b) = true then b else a) = max a b
    split <;> simp_all <;> omega
  rw [e]
  exact q
/-- == of two pairs, in a pair -/
def rPP (g : Bool → Bool) : R2 := fun x y H Q => ∃ (p q : Addr) (a b c d : Int), x = .ref p ∧ y = .ref q ∧ Pr H p a b ∧ Pr H q c d ∧ Q (.bl (g (decide (a = c ∧ b = d)))) H
theorem pair_dp {K : PySem.W.Frag} {H : Hp} {p : Addr} {a b : Int} (h : Pr H p a b) : Dp K H (.ref p) (.tuple [.int a, .int b]) := .tup (SqT.of h) (.cons (.int a) (.cons (.int b) .nil))
theorem pair_shaped (a b : Int) : SeqAt.shaped (.tuple [.int a, .int b]) = true := rfl
theorem pair_eqv (a b c d : Int) : PyData.eqv (.tuple [.int a, .int b]) (.tuple [.int c, .int d]) = decide (a = c ∧ b = d) := by
  simp only [PyData.eqv, PyData.eqvAll]
  by_cases h1 : a = c <;> by_cases h2 : b = d <;> simp [h1, h2]
theorem oEqP (hu : X.A.units + 64 < cLine) : OpR X (compareOp .Eq) (rPP id) := OpR.imp (op_eqD hu) fun x y H Q ⟨p, q, a, b, c, d, h1, h2, h3, h4, k⟩ => by
  subst h1 h2
  refine ⟨_, _, pair_dp h3, pair_dp h4, pair_shaped a b, pair_shaped c d, ?_⟩
  rw [pair_eqv]
  exact k
theorem oNeP (hu : X.A.units + 64 < cLine) : OpR X (compareOp .NotEq) (rPP not) := OpR.imp (op_neD hu) fun x y H Q ⟨p, q, a, b, c, d, h1, h2, h3, h4, k⟩ => by
  subst h1 h2
  refine ⟨_, _, pair_dp h3, pair_dp h4, pair_shaped a b, pair_shaped c d, ?_⟩
  rw [pair_eqv]
  exact k
def rInP (g : Bool → Bool) : R2 := fun x y H Q => ∃ (i : Int) (p : Addr) (a b : Int), x = .int i ∧ y = .ref p ∧ Pr H p a b ∧ Q (.bl (g (decide (a = i ∨ b = i)))) H
theorem inV_pair (i a b : Int) : inV (.int i) [.int a, .int b] = decide (a = i ∨ b = i) := by
  show ((a == i) || ((b == i) || false)) = _
  by_cases h1 : a = i <;> by_cases h2 : b = i <;> simp [h1, h2]
theorem oInP : OpR X (compareOp .In) (rInP id) := OpR.imp op_in_seq fun x y H Q ⟨i, p, a, b, h1, h2, h3, k⟩ => by
  subst h1 h2
  refine ⟨p, _, rfl, .inr (SqT.of h3), rfl, rfl, ?_⟩
  rw [inV_pair]
  exact k
theorem oNotInP : OpR X (compareOp .NotIn) (rInP not) := OpR.imp op_notIn_seq fun x y H Q ⟨i, p, a, b, h1, h2, h3, k⟩ => by
  subst h1 h2
  refine ⟨p, _, rfl, .inr (SqT.of h3), rfl, rfl, ?_⟩
  rw [inV_pair]
  exact k
end
end TH


namespace TW
open PySem PySem.Spec PyProof.Rows L2 TH
def primes : List Int := [1000003, 1000033, 1000037, 1000039, 1000081, 1000099, 1000117, 1000121, 1000133, 1000151, 1000159, 1000171, 1000183, 1000187, 1000193, 1000199]
theorem prime_at (k : Int) : ∃ v : Int, atI (primes.map V.int) (k % 16) = some (.int v) ∧ 0 < v := by
  have h0 := Int.emod_nonneg k (show (16 : Int) ≠ 0 by decide)
  have h1 := Int.emod_lt_of_pos k (show (0 : Int) < 16 by decide)
  obtain ⟨j, e⟩ := Int.eq_ofNat_of_zero_le h0
  have hj : j < primes.length := by show j < 16; omega
  refine ⟨primes[j], ?_, (show ∀ v ∈ primes, (0 : Int) < v by decide) _ (List.getElem_mem hj)⟩
  rw [e]
  exact atI_nat (by rw [List.getElem?_map, List.getElem?_eq_getElem hj]; rfl)
end TW

namespace TW
open PySem PySem.Spec PyProof.Rows L2 TH
theorem putK_le {κ : Type} [DecidableEq κ] (kvs : List (κ × V)) (k : κ) (v : V) : (putK kvs k v).length ≤ kvs.length + 1 := by
  unfold putK
  split <;> simp
theorem line_lt {m n : Nat} (h : m ≤ n) (h2 : Nat.ble n 100000 = true) : m < sizeLine := Nat.lt_of_le_of_lt (Nat.le_trans h (Nat.le_of_ble_eq_true h2)) (by decide)
/-- what is seen: the numbers of the pairs up to i -/
def SeenTo (t : Int) (kvs : List (Key × V)) (i : Nat) : Prop := ∀ x : Int, 1 ≤ x → ((valV kvs (Sum.inl x : Key)).isSome = true ↔ ∃ m : Int, 1 ≤ m ∧ m ≤ (i : Int) ∧ inp t m x)
theorem seen0 (t : Int) : SeenTo t [] 0 := fun x hx => by
  constructor
  · intro h
    cases h
  · rintro ⟨m, h1, h2, _⟩
    omega
theorem seen_lt {t now : Int} {kvs : List (Key × V)} {i : Nat} (ht : 1 ≤ t) (hk : SeenTo t kvs i) (g1 : 1 ≤ now) (g2 : now ≤ les t (1 + (i : Int))) (c : (valV kvs (Sum.inl now : Key)).isSome = true) : now < les t (1 + (i : Int)) := by
  obtain ⟨m, m1, m2, m3⟩ := (hk now g1).mp c
  rcases Int.lt_or_eq_of_le g2 with z | z
  · exact z
  · have := inp_one ht (by omega) (by omega) g1 m3 (show inp t (1 + (i : Int)) now from .inl z.symm)
    omega
theorem seen_end {t now : Int} {kvs : List (Key × V)} {i : Nat} (ht : 1 ≤ t) (hk : SeenTo t kvs i) (g1 : 1 ≤ now) (g2 : now ≤ les t (1 + (i : Int))) (c : ¬ (valV kvs (Sum.inl now : Key)).isSome = true) : now = les t (1 + (i : Int)) := by
  rcases Int.lt_or_eq_of_le g2 with z | z
  · exfalso
    obtain ⟨p1, p2⟩ := plc_ok ht g1
    have h3 : les t (plc t now) ≤ now := by
      have := les_le_oth ht (show 0 ≤ plc t now by omega)
      rcases p2 with p2 | p2 <;> omega
    have h4 : plc t now ≤ (i : Int) := by
      rcases Int.lt_or_le (i : Int) (plc t now) with z1 | z1
      · exfalso
        rcases Int.lt_or_eq_of_le (show 1 + (i : Int) ≤ plc t now by omega) with z2 | z2
        · have := les_mono ht (show 0 ≤ 1 + (i : Int) by omega) z2
          omega
        · rw [← z2] at h3
          omega
      · exact z1
    exact c ((hk now g1).mpr ⟨_, p1, h4, p2⟩)
  · exact z
theorem seen_next {t : Int} {kvs : List (Key × V)} {i : Nat} {u v : V} (ht : 1 ≤ t) (hk : SeenTo t kvs i) : SeenTo t (putK (putK kvs (Sum.inl (les t (1 + (i : Int)))) u) (Sum.inl (les t (1 + (i : Int)) + t * (1 + (i : Int)))) v) (i + 1) := fun x hx => by
  rw [valV_put, valV_put]
  have eo : oth t (1 + (i : Int)) = les t (1 + (i : Int)) + t * (1 + (i : Int)) := rfl
  by_cases h1 : x = les t (1 + (i : Int)) + t * (1 + (i : Int))
  · rw [if_pos (congrArg Sum.inl h1)]
    exact ⟨fun _ => ⟨1 + (i : Int), by omega, by omega, .inr (by omega)⟩, fun _ => rfl⟩
  · rw [if_neg fun z => h1 (Sum.inl.inj z)]
    by_cases h2 : x = les t (1 + (i : Int))
    · rw [if_pos (congrArg Sum.inl h2)]
      exact ⟨fun _ => ⟨1 + (i : Int), by omega, by omega, .inl h2.symm⟩, fun _ => rfl⟩
    · rw [if_neg fun z => h2 (Sum.inl.inj z), hk x hx]
      constructor
      · rintro ⟨m, m1, m2, m3⟩
        exact ⟨m, m1, by omega, m3⟩
      · rintro ⟨m, m1, m2, m3⟩
        rcases Int.lt_or_le (i : Int) m with z | z
        · exfalso
          have : m = 1 + (i : Int) := by omega
          subst this
          rcases m3 with m3 | m3 <;> omega
        · exact ⟨m, m1, z, m3⟩
end TW

namespace TW
open PySem PySem.Spec PyProof.Rows L2 TH
theorem cut63 {ns : List Int} (h : ns.length ≤ 63) : cutV (ns.map V.int) none (some 63) = ns.map V.int := by
  unfold cutV
  rw [show HT.sIx (ns.map V.int).length (ns.map V.int).length (some 63) = min 63 (ns.map V.int).length from HT.sIx_nat _ _ 63, HT.sIx_none, List.drop_zero]
  rw [List.length_map]
  exact List.take_of_length_le (by rw [List.length_map]; omega)
theorem rg6 : ∀ L : Nat, L < 64 → (Builtin.Range.small 0 (L : Int) (1 + (L : Int) / 6) = true ∧ 0 ≤ Builtin.Range.rangeSize 0 (L : Int) (1 + (L : Int) / 6) ∧ Builtin.Range.rangeSize 0 (L : Int) (1 + (L : Int) / 6) * (1 + (L : Int) / 6) ≤ 100) := by decide +kernel
theorem rg_ok {L : Nat} (h : L ≤ 63) : RgC 0 (L : Int) (1 + (L : Int) / 6) (Builtin.Range.rangeSize 0 (L : Int) (1 + (L : Int) / 6)).toNat := by
  obtain ⟨h1, h2, h3⟩ := rg6 L (by omega)
  exact ⟨by omega, by omega, h1, by omega⟩
theorem rg_at {L i : Nat} (h : L ≤ 63) (hi : i < (Builtin.Range.rangeSize 0 (L : Int) (1 + (L : Int) / 6)).toNat) : 0 ≤ (0 : Int) + (i : Int) * (1 + (L : Int) / 6) ∧ (0 : Int) + (i : Int) * (1 + (L : Int) / 6) ≤ 100 := by
  obtain ⟨h1, h2, h3⟩ := rg6 L (by omega)
  have h4 : (0 : Int) ≤ 1 + (L : Int) / 6 := by omega
  have h5 := Int.mul_nonneg (show (0 : Int) ≤ (i : Int) by omega) h4
  have h6 := Int.mul_le_mul_of_nonneg_right (show (i : Int) ≤ Builtin.Range.rangeSize 0 (L : Int) (1 + (L : Int) / 6) by omega) h4
  omega
end TW

set_option hygiene false
local macro_rules | `(tactic| walk_at "hp") => `(tactic| first | assumption | exact upd_same | (refine same_at (by assumption) ?_; walk_at "hp"))
local macro_rules | `(tactic| walk_at "sm") => `(tactic| first | assumption | exact Same.refl _ | (refine same_back (by assumption) ?_; walk_at "sm"))
local macro_rules | `(tactic| walk_at "bd") => `(tactic| first | assumption | exact bd_lit | (apply bd_add; (walk_at "bd"); (walk_at "bd")) | (apply bd_sub; (walk_at "bd"); (walk_at "bd")) | (apply bd_mul; (walk_at "bd"); (walk_at "bd")) | (apply bd_neg; (walk_at "bd")) | (apply bd_mod; (walk_at "bd"); omega) | (apply bd_div; (walk_at "bd"); omega) | fail)
local macro_rules | `(tactic| walk_at "bdm") => `(tactic| (apply bd_mono'; (walk_at "bd"); exact rfl))
local macro_rules | `(tactic| walk_at "side") => `(tactic| first | assumption | omega | (apply cm_ok; (walk_at "bd"); (walk_at "bd"); exact rfl) | (apply cd_ok; omega; (walk_at "bd"); exact rfl) | (apply bd_le64; exact rfl) | (walk_at "bdm") | decide | fail)
local macro_rules | `(tactic| walk_at "is") => `(tactic| first
  | (refine ⟨_, _, _, _, _, rfl, .ty _, .base (.int _), (by first | exact kq_int_int | exact kq_int_bool | exact kq_int_tuple), ?_⟩)
  | (refine ⟨_, _, _, _, _, rfl, .ty _, .base (.bl _), (by first | exact kq_bool_int | exact kq_bool_bool | exact kq_bool_tuple), ?_⟩)
  | (refine ⟨_, _, _, _, _, rfl, .ty _, .base .non, (by first | exact kq_NoneType_int | exact kq_NoneType_bool | exact kq_NoneType_tuple), ?_⟩)
  | (refine ⟨_, _, _, _, _, rfl, .ty _, .base (.str _), (by first | exact kq_str_int | exact kq_str_bool | exact kq_str_tuple), ?_⟩)
  | (refine ⟨_, _, _, _, _, rfl, .ty _, .base (.tup (by walk_at "hp")), (by first | exact kq_tuple_int | exact kq_tuple_bool | exact kq_tuple_tuple), ?_⟩)
  | (refine ⟨_, _, _, _, _, rfl, .ty _, .base (.lst (by walk_at "hp")), (by first | exact kq_list_int | exact kq_list_bool | exact kq_list_tuple), ?_⟩)
  | (refine ⟨_, _, _, _, _, rfl, .ty _, .base (.dK (by walk_at "hp")), (by first | exact kq_dict_int | exact kq_dict_bool | exact kq_dict_tuple), ?_⟩))
local macro_rules | `(tactic| walk_at "ix") => `(tactic| refine ⟨_, _, _, _, rfl, rfl, SqT.of (by walk_at "hp"), rfl, ?_⟩)
local macro_rules | `(tactic| walk_at "sq") => `(tactic| first | assumption | exact SqL.of (by walk_at "hp") | (refine Same.seq (by assumption) ?_; walk_at "sq"))
local macro_rules | `(tactic| walk_at "ln") => `(tactic| first | (refine ⟨_, _, rfl, .inl ⟨_, by walk_at "sq", rfl⟩, ?_⟩) | (refine ⟨_, _, rfl, .inr ⟨_, SqT.of (by walk_at "hp"), rfl⟩, ?_⟩))
local macro_rules | `(tactic| walk_at "pp") => `(tactic| (refine ⟨_, _, _, _, _, _, rfl, rfl, (by walk_at "hp"), (by walk_at "hp"), ?_⟩))
local macro_rules | `(tactic| walk_at "inp") => `(tactic| (refine ⟨_, _, _, _, rfl, rfl, (by walk_at "hp"), ?_⟩))
local macro_rules | `(tactic| walk_at "sl") => `(tactic| refine ⟨_, _, rfl, (show SqL _ _ _ _ by walk_at "sq"), ?_⟩)
local macro_rules | `(tactic| walk_at "pr") => `(tactic| first | refine ⟨_, _, _, rfl, (show _ = _ by walk_at "hp"), ?_⟩ | refine ⟨_, _, _, rfl, (show SqL _ _ _ _ by walk_at "sq"), ?_⟩)
local macro_rules | `(tactic| walk_at "rd") => `(tactic| repeat (first
  | (refine ⟨_, rfl, ?_⟩)
  | (refine ⟨_, _, rfl, rfl, ?_⟩)
  | (refine ⟨rfl, rfl, ?_⟩)
  | (walk_at "ix")
  | (walk_at "is")
  | (walk_at "ln")
  | (walk_at "pp")
  | (walk_at "inp")
  | (walk_at "pr")
  | (walk_at "sl")
  | (refine ⟨_, _, rfl, rfl, (by (show (_ : Prop)); walk_at "side"), ?_⟩)
  | (refine ⟨_, _, rfl, ?_⟩)
  | (refine ⟨_, _, _, rfl, ?_⟩)
  | (refine ⟨(by (show (_ : Prop)); walk_at "side"), ?_⟩)
  | fail))
local macro_rules | `(tactic| walk_at "br") => `(tactic| (refine ite2 (fun c => ?_) (fun c => ?_) <;> simp only [decide_eq_true_eq, Bool.not_eq_true', decide_eq_false_iff_not, Bool.not_eq_true, Bool.true_eq_false, Bool.false_eq_true, Bool.not_true, Bool.not_false, not_true, not_false_eq_true] at c))

namespace TW
open PySem PySem.Spec PyProof.Rows L2 TH

def topS (i : Nat) : Stmt := PySem.Challenge.pw_twoheaps_k02_whole_pairs.main.body.getD i (.Pass ⟨0, 0, 0, 0⟩)
abbrev s_is_whole : Stmt := topS 5
theorem sc_is_whole : FnScope ["thing"] ["thing"] (defScope s_is_whole) := ⟨rfl, rfl, rfl, by decide +kernel, rfl, by decide +kernel, by decide +kernel⟩
abbrev s_check_bound : Stmt := topS 6
theorem sc_check_bound : FnScope ["bound"] ["bound"] (defScope s_check_bound) := ⟨rfl, rfl, rfl, by decide +kernel, rfl, by decide +kernel, by decide +kernel⟩
abbrev s_root_of : Stmt := topS 8
theorem sc_root_of : FnScope ["number", "now"] ["number"] (defScope s_root_of) := ⟨rfl, rfl, rfl, by decide +kernel, rfl, by decide +kernel, by decide +kernel⟩
abbrev s_lesser_of : Stmt := topS 9
theorem sc_lesser_of : FnScope ["bound", "number"] ["bound", "number"] (defScope s_lesser_of) := ⟨rfl, rfl, rfl, by decide +kernel, rfl, by decide +kernel, by decide +kernel⟩
abbrev s_pair_of : Stmt := topS 10
theorem sc_pair_of : FnScope ["bound", "number", "least"] ["bound", "number"] (defScope s_pair_of) := ⟨rfl, rfl, rfl, by decide +kernel, rfl, by decide +kernel, by decide +kernel⟩
abbrev s_pair_by : Stmt := topS 11
theorem sc_pair_by : FnScope ["bound", "number"] ["bound", "number"] (defScope s_pair_by) := ⟨rfl, rfl, rfl, by decide +kernel, rfl, by decide +kernel, by decide +kernel⟩
abbrev s_place_of : Stmt := topS 12
theorem sc_place_of : FnScope ["bound", "number", "found"] ["bound", "number"] (defScope s_place_of) := ⟨rfl, rfl, rfl, by decide +kernel, rfl, by decide +kernel, by decide +kernel⟩
abbrev s_pair_with : Stmt := topS 13
theorem sc_pair_with : FnScope ["bound", "number"] ["bound", "number"] (defScope s_pair_with) := ⟨rfl, rfl, rfl, by decide +kernel, rfl, by decide +kernel, by decide +kernel⟩
abbrev s__law_cell_at : Stmt := topS 15
theorem sc__law_cell_at : FnScope ["_law_script", "_law_k"] ["_law_script", "_law_k"] (defScope s__law_cell_at) := ⟨rfl, rfl, rfl, by decide +kernel, rfl, by decide +kernel, by decide +kernel⟩
abbrev s__law_draw : Stmt := topS 16
theorem sc__law_draw : FnScope ["_law_cell", "_law_k", "_law_many", "_law_primes"] ["_law_cell", "_law_k", "_law_many"] (defScope s__law_draw) := ⟨rfl, rfl, rfl, by decide +kernel, rfl, by decide +kernel, by decide +kernel⟩
abbrev s__law_number : Stmt := topS 17
theorem sc__law_number : FnScope ["_law_cell", "_law_k", "_law_limit"] ["_law_cell", "_law_k", "_law_limit"] (defScope s__law_number) := ⟨rfl, rfl, rfl, by decide +kernel, rfl, by decide +kernel, by decide +kernel⟩
abbrev s__law_root : Stmt := topS 18
theorem sc__law_root : FnScope ["_law_number_here", "_law_now"] ["_law_number_here"] (defScope s__law_root) := ⟨rfl, rfl, rfl, by decide +kernel, rfl, by decide +kernel, by decide +kernel⟩
abbrev s__law_pair : Stmt := topS 19
theorem sc__law_pair : FnScope ["_law_by", "_law_at", "_law_square", "_law_least"] ["_law_by", "_law_at"] (defScope s__law_pair) := ⟨rfl, rfl, rfl, by decide +kernel, rfl, by decide +kernel, by decide +kernel⟩
abbrev s__law_bound : Stmt := topS 20
theorem sc__law_bound : FnScope ["_law_script", "_law_k", "_law_cell", "_law_number_here"] ["_law_script", "_law_k"] (defScope s__law_bound) := ⟨rfl, rfl, rfl, by decide +kernel, rfl, by decide +kernel, by decide +kernel⟩
abbrev s__law_whole : Stmt := topS 21
theorem sc__law_whole : FnScope ["_law_number_here"] ["_law_number_here"] (defScope s__law_whole) := ⟨rfl, rfl, rfl, by decide +kernel, rfl, by decide +kernel, by decide +kernel⟩
abbrev s__law_is_pair : Stmt := topS 22
theorem sc__law_is_pair : FnScope ["_law_found"] ["_law_found"] (defScope s__law_is_pair) := ⟨rfl, rfl, rfl, by decide +kernel, rfl, by decide +kernel, by decide +kernel⟩
abbrev s__law_right : Stmt := topS 23
theorem sc__law_right : FnScope ["_law_bound_here", "_law_number_here", "_law_pair_here", "_law_after", "_law_one"] ["_law_bound_here", "_law_number_here"] (defScope s__law_right) := ⟨rfl, rfl, rfl, by decide +kernel, rfl, by decide +kernel, by decide +kernel⟩
abbrev s__law_first_right : Stmt := topS 24
theorem sc__law_first_right : FnScope ["_law_bound_here", "_law_seen", "_law_now", "_law_number_here"] ["_law_bound_here"] (defScope s__law_first_right) := ⟨rfl, rfl, rfl, by decide +kernel, rfl, by decide +kernel, by decide +kernel⟩
abbrev s_law : Stmt := topS 25
theorem sc_law : FnScope ["_law_script", "_law_k", "_law_bound_here", "_law_cell", "_law_number_here", "_law_some", "_law_at"] ["_law_script"] (defScope s_law) := ⟨rfl, rfl, rfl, by decide +kernel, rfl, by decide +kernel, by decide +kernel⟩
/-- what the top has written -/
structure Txt (K : PySem.W.Frag) (mg : Str → Option Value) where
  a_is_whole : Addr
  d_is_whole : FuncData
  a_check_bound : Addr
  d_check_bound : FuncData
  a_root_of : Addr
  d_root_of : FuncData
  a_lesser_of : Addr
  d_lesser_of : FuncData
  a_pair_of : Addr
  d_pair_of : FuncData
  a_pair_by : Addr
  d_pair_by : FuncData
  a_place_of : Addr
  d_place_of : FuncData
  a_pair_with : Addr
  d_pair_with : FuncData
  a__law_cell_at : Addr
  d__law_cell_at : FuncData
  a__law_draw : Addr
  d__law_draw : FuncData
  a__law_number : Addr
  d__law_number : FuncData
  a__law_root : Addr
  d__law_root : FuncData
  a__law_pair : Addr
  d__law_pair : FuncData
  a__law_bound : Addr
  d__law_bound : FuncData
  a__law_whole : Addr
  d__law_whole : FuncData
  a__law_is_pair : Addr
  d__law_is_pair : FuncData
  a__law_right : Addr
  d__law_right : FuncData
  a__law_first_right : Addr
  d__law_first_right : FuncData
  a_law : Addr
  d_law : FuncData
  F_is_whole : Fun K "is_whole" "is_whole" s_is_whole a_is_whole d_is_whole
  g_is_whole : mg "is_whole" = some (.ref a_is_whole)
  b_is_whole : Binds K d_is_whole ["thing"] []
  F_check_bound : Fun K "check_bound" "check_bound" s_check_bound a_check_bound d_check_bound
  g_check_bound : mg "check_bound" = some (.ref a_check_bound)
  b_check_bound : Binds K d_check_bound ["bound"] []
  F_root_of : Fun K "root_of" "root_of" s_root_of a_root_of d_root_of
  g_root_of : mg "root_of" = some (.ref a_root_of)
  b_root_of : Binds K d_root_of ["number"] []
  F_lesser_of : Fun K "lesser_of" "lesser_of" s_lesser_of a_lesser_of d_lesser_of
  g_lesser_of : mg "lesser_of" = some (.ref a_lesser_of)
  b_lesser_of : Binds K d_lesser_of ["bound", "number"] []
  F_pair_of : Fun K "pair_of" "pair_of" s_pair_of a_pair_of d_pair_of
  g_pair_of : mg "pair_of" = some (.ref a_pair_of)
  b_pair_of : Binds K d_pair_of ["bound", "number"] []
  F_pair_by : Fun K "pair_by" "pair_by" s_pair_by a_pair_by d_pair_by
  g_pair_by : mg "pair_by" = some (.ref a_pair_by)
  b_pair_by : Binds K d_pair_by ["bound", "number"] []
  F_place_of : Fun K "place_of" "place_of" s_place_of a_place_of d_place_of
  g_place_of : mg "place_of" = some (.ref a_place_of)
  b_place_of : Binds K d_place_of ["bound", "number"] []
  F_pair_with : Fun K "pair_with" "pair_with" s_pair_with a_pair_with d_pair_with
  g_pair_with : mg "pair_with" = some (.ref a_pair_with)
  b_pair_with : Binds K d_pair_with ["bound", "number"] []
  F__law_cell_at : Fun K "_law_cell_at" "_law_cell_at" s__law_cell_at a__law_cell_at d__law_cell_at
  g__law_cell_at : mg "_law_cell_at" = some (.ref a__law_cell_at)
  b__law_cell_at : Binds K d__law_cell_at ["_law_script", "_law_k"] []
  F__law_draw : Fun K "_law_draw" "_law_draw" s__law_draw a__law_draw d__law_draw
  g__law_draw : mg "_law_draw" = some (.ref a__law_draw)
  b__law_draw : Binds K d__law_draw ["_law_cell", "_law_k", "_law_many"] []
  F__law_number : Fun K "_law_number" "_law_number" s__law_number a__law_number d__law_number
  g__law_number : mg "_law_number" = some (.ref a__law_number)
  b__law_number : Binds K d__law_number ["_law_cell", "_law_k", "_law_limit"] []
  F__law_root : Fun K "_law_root" "_law_root" s__law_root a__law_root d__law_root
  g__law_root : mg "_law_root" = some (.ref a__law_root)
  b__law_root : Binds K d__law_root ["_law_number_here"] []
  F__law_pair : Fun K "_law_pair" "_law_pair" s__law_pair a__law_pair d__law_pair
  g__law_pair : mg "_law_pair" = some (.ref a__law_pair)
  b__law_pair : Binds K d__law_pair ["_law_by", "_law_at"] []
  F__law_bound : Fun K "_law_bound" "_law_bound" s__law_bound a__law_bound d__law_bound
  g__law_bound : mg "_law_bound" = some (.ref a__law_bound)
  b__law_bound : Binds K d__law_bound ["_law_script", "_law_k"] []
  F__law_whole : Fun K "_law_whole" "_law_whole" s__law_whole a__law_whole d__law_whole
  g__law_whole : mg "_law_whole" = some (.ref a__law_whole)
  b__law_whole : Binds K d__law_whole ["_law_number_here"] []
  F__law_is_pair : Fun K "_law_is_pair" "_law_is_pair" s__law_is_pair a__law_is_pair d__law_is_pair
  g__law_is_pair : mg "_law_is_pair" = some (.ref a__law_is_pair)
  b__law_is_pair : Binds K d__law_is_pair ["_law_found"] []
  F__law_right : Fun K "_law_right" "_law_right" s__law_right a__law_right d__law_right
  g__law_right : mg "_law_right" = some (.ref a__law_right)
  b__law_right : Binds K d__law_right ["_law_bound_here", "_law_number_here"] []
  F__law_first_right : Fun K "_law_first_right" "_law_first_right" s__law_first_right a__law_first_right d__law_first_right
  g__law_first_right : mg "_law_first_right" = some (.ref a__law_first_right)
  b__law_first_right : Binds K d__law_first_right ["_law_bound_here"] []
  F_law : Fun K "law" "law" s_law a_law d_law
  g_law : mg "law" = some (.ref a_law)
  b_law : Binds K d_law ["_law_script"] []
  n_isinstance : mg "isinstance" = none
  n_len : mg "len" = none
  n_max : mg "max" = none
  n_int : mg "int" = none
  n_bool : mg "bool" = none
  n_tuple : mg "tuple" = none
  n_range : mg "range" = none

section
variable {P : Program} {w : World} {K : PySem.W.Frag} {mg : Str → Option Value} {base : Heap}

def sp_is_whole  : Sp := fun vs H Q E => ∃ (i : Int), vs = [.int i] ∧ Q (.bl true) H
theorem ok_is_whole (T : Txt K mg) : FnOk P w K mg base CX0 1 T.a_is_whole T.d_is_whole ["thing"] (sp_is_whole ) := by
  refine T.F_is_whole.ok sc_is_whole (fun vs H Q E h => ?_) (fun cdv A outer s H vs Q E hr h => ?_)
  · obtain ⟨_, rfl, _⟩ := h
    rfl
  · have hu := hu_of hr
    obtain ⟨i, rfl, q⟩ := h
    refine ⟨_, (pss_one (ps_ret (pe_and (pe_callB call_isi (by rfl) T.n_isinstance (by decide +kernel) (pa_cons (pv 0) (pa_cons (pe_bltn (v := .ty "int") (by rfl) T.n_int (by decide +kernel) rfl) pa_nil))) (pe_one (pe_not (pe_callB call_isi (by rfl) T.n_isinstance (by decide +kernel) (pa_cons (pv 0) (pa_cons (pe_bltn (v := .ty "bool") (by rfl) T.n_bool (by decide +kernel) rfl) pa_nil)))))))), ?_⟩
    walk_at "rd"
    exact q

def sp_check_bound  : Sp := fun vs H Q E => ∃ (t : Int), vs = [.int t] ∧ 1 ≤ t ∧ Q .non H
theorem ok_check_bound (T : Txt K mg) : FnOk P w K mg base CX0 2 T.a_check_bound T.d_check_bound ["bound"] (sp_check_bound ) := by
  refine T.F_check_bound.ok sc_check_bound (fun vs H Q E h => ?_) (fun cdv A outer s H vs Q E hr h => ?_)
  · obtain ⟨_, rfl, _⟩ := h
    rfl
  · have hu := hu_of hr
    obtain ⟨t, rfl, ht, q⟩ := h
    refine ⟨_, (pss_one (ps_if (PW.pt (pw_or (pt_not (pt_val (pe_call (ok_is_whole (P := P) (w := w) (base := base) T) (hr.mono (by decide : 1 ≤ _)) (by rfl) T.g_is_whole T.F_is_whole.kp T.b_is_whole .nil pass0 (pa_cons (pv 0) pa_nil)))) (pw_or1 (pt_cmpR op_lt (pv 0) pe_int (nomark _))))) (pss_one (ps_never)) pss_nil)), ?_⟩
    walk_at "rd"
    refine ite2 (fun c => ?_) (fun c => ?_)
    · have := of_decide_eq_true c
      omega
    · exact q

def sp_root_of  : Sp := fun vs H Q E => ∃ (n : Int), vs = [.int n] ∧ 0 ≤ n ∧ Bd 8000 n ∧ Q (.int (rt n)) H
theorem ok_root_of (T : Txt K mg) : FnOk P w K mg base CX0 1 T.a_root_of T.d_root_of ["number"] (sp_root_of ) := by
  refine T.F_root_of.ok sc_root_of (fun vs H Q E h => ?_) (fun cdv A outer s H vs Q E hr h => ?_)
  · obtain ⟨_, rfl, _⟩ := h
    rfl
  · have hu := hu_of hr
    obtain ⟨n, rfl, hn, bn, q⟩ := h
    refine ⟨_, (pss_cons (ps_if (pt_cmpR oEq (pv 0) pe_int (nomark _)) (pss_one (ps_ret pe_int)) pss_nil) (pss_cons (ps_set (i := 1) sc_root_of.nd rfl (Or.inl rfl) (pe_op op_shlW pe_int (pe_op oDiv (pe_op op_add (pe_bits (pv 0)) pe_int) pe_int))) (pss_cons (ps_while PassesOwn.never (pt_cmpR op_gt (pe_op oMul (pv 1) (pv 1)) (pv 0) (nomark _)) (pss_one (ps_set (i := 1) sc_root_of.nd rfl (Or.inl rfl) (pe_op oDiv (pe_op op_add (pv 1) (pe_op oDiv (pv 0) (pv 1))) pe_int)))) (pss_one (ps_ret (pv 1)))))), ?_⟩
    walk_at "rd"
    refine ite2 (fun c => ?_) (fun c => ?_)
    · have e := of_decide_eq_true c
      subst e
      exact q
    · have c : n ≠ 0 := fun z => c (decide_eq_true z)
      walk_at "rd"
      have hb := intBits_le bn.out
      have hn2 := bits_lt n
      obtain ⟨s1, s2⟩ := newton_start hn hn2
      generalize Builtin.Int.intBits n = b at *
      have e : ((b : Int) + 1) / 2 = (((b + 1) / 2 : Nat) : Int) := by omega
      have cs : CShl 1 (((b : Int) + 1) / 2) := by
        rw [e]
        exact shl_ok (n := 1) (by decide) (by omega)
      have bx : Bd 8020 ((1 : Int) * 2 ^ (((b : Int) + 1) / 2).toNat) := by
        have e2 : (((b : Int) + 1) / 2).toNat = (b + 1) / 2 := by omega
        rw [e2, Int.one_mul, ← pow_cast]
        refine ⟨?_⟩
        rw [Int.natAbs_natCast]
        exact Nat.pow_lt_pow_right (by decide) (by omega)
      refine ⟨cs, ?_⟩
      refine ⟨fun m σ H' => H' = H ∧ ∃ x : Int, σ = [some (.int n), some (.int x)] ∧ 0 ≤ x ∧ rt n ≤ x ∧ Bd 8020 x ∧ m = x.toNat, ⟨_, rfl, _, rfl, s1, s2, bx, rfl⟩, ?_⟩
      rintro m σ H' ⟨rfl, x, rfl, hx, hr', bx, rfl⟩
      walk_at "rd"
      refine ite2 (fun c => ?_) (fun c => ?_)
      · have c := of_decide_eq_true c
        obtain ⟨n1, n2, n3, n4⟩ := newton hn hx hr' c
        refine ⟨fun σ' H2 => H2 = H' ∧ ∃ y : Int, σ' = [some (.int n), some (.int y)] ∧ 0 ≤ y ∧ rt n ≤ y ∧ Bd 8020 y ∧ y < x, ?_, ?_⟩
        · rintro σ' H2 ⟨rfl, y, rfl, y1, y2, y3, y4⟩
          exact ⟨y.toNat, by omega, rfl, y, rfl, y1, y2, y3, rfl⟩
        · walk_at "rd"
          exact ⟨rfl, _, rfl, n2, n3, bd_le bx n2 (by omega), n4⟩
      · have e := newton_end hn hr' (fun z => c (decide_eq_true z))
        walk_at "rd"
        rw [e]
        exact q

def sp_lesser_of  : Sp := fun vs H Q E => ∃ (t n : Int), vs = [.int t, .int n] ∧ Bd 900 t ∧ Bd 900 n ∧ Q (.int (les t n)) H
theorem ok_lesser_of (T : Txt K mg) : FnOk P w K mg base CX0 2 T.a_lesser_of T.d_lesser_of ["bound", "number"] (sp_lesser_of ) := by
  refine T.F_lesser_of.ok sc_lesser_of (fun vs H Q E h => ?_) (fun cdv A outer s H vs Q E hr h => ?_)
  · obtain ⟨_, _, rfl, _⟩ := h
    rfl
  · have hu := hu_of hr
    obtain ⟨t, n, rfl, bt, bn, q⟩ := h
    refine ⟨_, (pss_one (ps_ret (pe_op oDiv (pe_op op_add (pe_op oMul (pv 1) (pe_op op_sub pe_int (pv 0))) (pe_call (ok_root_of (P := P) (w := w) (base := base) T) (hr.mono (by decide : 1 ≤ _)) (by rfl) T.g_root_of T.F_root_of.kp T.b_root_of .nil pass0 (pa_cons (pe_op oMul (pe_op oMul (pv 1) (pv 1)) (pe_op op_add (pe_op oMul (pv 0) (pv 0)) pe_int)) pa_nil))) pe_int))), ?_⟩
    walk_at "rd"
    have hd := disc_nn t n
    walk_at "rd"
    exact q

def sp_pair_of  : Sp := fun vs H Q E => ∃ (t n : Int), vs = [.int t, .int n] ∧ Bd 900 t ∧ Bd 900 n ∧ ∀ p H2, H p = none → Same H H2 → Pr H2 p (les t n) (oth t n) → Q (.ref p) H2
theorem ok_pair_of (T : Txt K mg) : FnOk P w K mg base CX0 3 T.a_pair_of T.d_pair_of ["bound", "number"] (sp_pair_of ) := by
  refine T.F_pair_of.ok sc_pair_of (fun vs H Q E h => ?_) (fun cdv A outer s H vs Q E hr h => ?_)
  · obtain ⟨_, _, rfl, _⟩ := h
    rfl
  · have hu := hu_of hr
    obtain ⟨t, n, rfl, bt, bn, q⟩ := h
    refine ⟨_, (pss_cons (ps_set (i := 2) sc_pair_of.nd rfl (Or.inl rfl) (pe_call (ok_lesser_of (P := P) (w := w) (base := base) T) (hr.mono (by decide : 2 ≤ _)) (by rfl) T.g_lesser_of T.F_lesser_of.kp T.b_lesser_of .nil pass0 (pa_cons (pv 0) (pa_cons (pv 1) pa_nil)))) (pss_one (ps_ret (pe_tupA (pa_cons (pv 2) (pa_cons (pe_op op_add (pv 2) (pe_op oMul (pv 0) (pv 1))) pa_nil)))))), ?_⟩
    walk_at "rd"
    exact fun p H2 np e hp => q p H2 np e hp

def sp_pair_by  : Sp := fun vs H Q E => ∃ (t n : Int), vs = [.int t, .int n] ∧ 1 ≤ t ∧ 0 ≤ n ∧ Bd 900 t ∧ Bd 900 n ∧ ∀ p H2, H p = none → Same H H2 → Pr H2 p (les t n) (oth t n) → Q (.ref p) H2
theorem ok_pair_by (T : Txt K mg) : FnOk P w K mg base CX0 4 T.a_pair_by T.d_pair_by ["bound", "number"] (sp_pair_by ) := by
  refine T.F_pair_by.ok sc_pair_by (fun vs H Q E h => ?_) (fun cdv A outer s H vs Q E hr h => ?_)
  · obtain ⟨_, _, rfl, _⟩ := h
    rfl
  · have hu := hu_of hr
    obtain ⟨t, n, rfl, ht, hn, bt, bn, q⟩ := h
    refine ⟨_, (pss_cons (ps_expr (pe_call (ok_check_bound (P := P) (w := w) (base := base) T) (hr.mono (by decide : 2 ≤ _)) (by rfl) T.g_check_bound T.F_check_bound.kp T.b_check_bound .nil pass0 (pa_cons (pv 0) pa_nil))) (pss_cons (ps_if (PW.pt (pw_or (pt_not (pt_val (pe_call (ok_is_whole (P := P) (w := w) (base := base) T) (hr.mono (by decide : 1 ≤ _)) (by rfl) T.g_is_whole T.F_is_whole.kp T.b_is_whole .nil pass0 (pa_cons (pv 1) pa_nil)))) (pw_or1 (pt_cmpR op_lt (pv 1) pe_int (nomark _))))) (pss_one (ps_never)) pss_nil) (pss_one (ps_ret (pe_call (ok_pair_of (P := P) (w := w) (base := base) T) (hr.mono (by decide : 3 ≤ _)) (by rfl) T.g_pair_of T.F_pair_of.kp T.b_pair_of .nil pass0 (pa_cons (pv 0) (pa_cons (pv 1) pa_nil))))))), ?_⟩
    walk_at "rd"
    refine ite2 (fun c => ?_) (fun c => ?_)
    · have := of_decide_eq_true c
      omega
    · walk_at "rd"
      exact q

def sp_place_of  : Sp := fun vs H Q E => ∃ (t k : Int), vs = [.int t, .int k] ∧ 1 ≤ t ∧ 1 ≤ k ∧ Bd 700 t ∧ Bd 700 k ∧ Q (.int (plc t k)) H
theorem ok_place_of (T : Txt K mg) : FnOk P w K mg base CX0 3 T.a_place_of T.d_place_of ["bound", "number"] (sp_place_of ) := by
  refine T.F_place_of.ok sc_place_of (fun vs H Q E h => ?_) (fun cdv A outer s H vs Q E hr h => ?_)
  · obtain ⟨_, _, rfl, _⟩ := h
    rfl
  · have hu := hu_of hr
    obtain ⟨t, k, rfl, ht, hk, bt, bk, q⟩ := h
    refine ⟨_, (pss_cons (ps_set (i := 2) sc_place_of.nd rfl (Or.inl rfl) (pe_op op_add (pe_op oDiv (pe_op op_add (pe_call (ok_root_of (P := P) (w := w) (base := base) T) (hr.mono (by decide : 1 ≤ _)) (by rfl) T.g_root_of T.F_root_of.kp T.b_root_of .nil pass0 (pa_cons (pe_op oMul (pe_op oMul (pv 1) (pv 1)) (pe_op op_add (pe_op oMul (pv 0) (pv 0)) pe_int)) pa_nil)) (pe_op oMul (pv 1) (pe_op op_sub (pv 0) pe_int))) (pe_op oMul pe_int (pv 0))) pe_int)) (pss_cons (ps_if (pt_cmpR oEq (pe_call (ok_lesser_of (P := P) (w := w) (base := base) T) (hr.mono (by decide : 2 ≤ _)) (by rfl) T.g_lesser_of T.F_lesser_of.kp T.b_lesser_of .nil pass0 (pa_cons (pv 0) (pa_cons (pv 2) pa_nil))) (pv 1) (nomark _)) (pss_one (ps_ret (pv 2))) pss_nil) (pss_one (ps_ret (pe_op op_add (pe_op op_sub (pv 1) (pv 2)) pe_int))))), ?_⟩
    have hd := disc_nn t k
    walk_at "rd"
    have hf := fnd_spec ht hk
    have hf2 := fnd_le ht hk
    have bf : Bd 900 (fnd t k) := bd_mono (bd_le bk (by omega) hf2) (by decide)
    refine ⟨bf, ?_⟩
    walk_at "rd"
    refine ite2 (fun c => ?_) (fun c => ?_)
    · have e := of_decide_eq_true c
      walk_at "rd"
      have z : plc t k = fnd t k := if_pos e
      rw [z] at q
      exact q
    · have e : ¬ les t (fnd t k) = k := fun z => c (decide_eq_true z)
      walk_at "rd"
      have z : plc t k = k - fnd t k + 1 := if_neg e
      rw [z] at q
      exact q

def sp_pair_with  : Sp := fun vs H Q E => ∃ (t k : Int), vs = [.int t, .int k] ∧ 1 ≤ t ∧ 1 ≤ k ∧ Bd 700 t ∧ Bd 700 k ∧ Q (.int (plc t k)) H
theorem ok_pair_with (T : Txt K mg) : FnOk P w K mg base CX0 4 T.a_pair_with T.d_pair_with ["bound", "number"] (sp_pair_with ) := by
  refine T.F_pair_with.ok sc_pair_with (fun vs H Q E h => ?_) (fun cdv A outer s H vs Q E hr h => ?_)
  · obtain ⟨_, _, rfl, _⟩ := h
    rfl
  · have hu := hu_of hr
    obtain ⟨t, k, rfl, ht, hk, bt, bk, q⟩ := h
    refine ⟨_, (pss_cons (ps_expr (pe_call (ok_check_bound (P := P) (w := w) (base := base) T) (hr.mono (by decide : 2 ≤ _)) (by rfl) T.g_check_bound T.F_check_bound.kp T.b_check_bound .nil pass0 (pa_cons (pv 0) pa_nil))) (pss_cons (ps_if (PW.pt (pw_or (pt_not (pt_val (pe_call (ok_is_whole (P := P) (w := w) (base := base) T) (hr.mono (by decide : 1 ≤ _)) (by rfl) T.g_is_whole T.F_is_whole.kp T.b_is_whole .nil pass0 (pa_cons (pv 1) pa_nil)))) (pw_or1 (pt_cmpR op_lt (pv 1) pe_int (nomark _))))) (pss_one (ps_never)) pss_nil) (pss_one (ps_ret (pe_call (ok_place_of (P := P) (w := w) (base := base) T) (hr.mono (by decide : 3 ≤ _)) (by rfl) T.g_place_of T.F_place_of.kp T.b_place_of .nil pass0 (pa_cons (pv 0) (pa_cons (pv 1) pa_nil))))))), ?_⟩
    walk_at "rd"
    refine ite2 (fun c => ?_) (fun c => ?_)
    · have := of_decide_eq_true c
      omega
    · walk_at "rd"
      exact q

def sp__law_cell_at (K : PySem.W.Frag) : Sp := fun vs H Q E => ∃ (a : Addr) (ns : List Int) (k : Int), vs = [.ref a, .int k] ∧ SqL K H a (ns.map V.int) ∧ (0 ≤ k ∧ k ≤ 200) ∧ (∀ n ∈ ns, Bd 1048577 n) ∧ ∀ c, Bd 1048577 c → Q (.int c) H
theorem ok__law_cell_at (T : Txt K mg) : FnOk P w K mg base CX0 1 T.a__law_cell_at T.d__law_cell_at ["_law_script", "_law_k"] (sp__law_cell_at K) := by
  refine T.F__law_cell_at.ok sc__law_cell_at (fun vs H Q E h => ?_) (fun cdv A outer s H vs Q E hr h => ?_)
  · obtain ⟨_, _, _, rfl, _⟩ := h
    rfl
  · have hu := hu_of hr
    obtain ⟨a, ns, k, rfl, hS, ⟨hk, hk2⟩, hb, q⟩ := h
    refine ⟨_, (pss_cons (ps_if (pt_cmpR op_lt (pv 1) (pe_callB call_len (by rfl) T.n_len (by decide +kernel) (pa_cons (pv 0) pa_nil)) (nomark _)) (pss_one (ps_ret (pe_ix ix_list (pv 0) (pv 1) (fun _ _ => rfl)))) pss_nil) (pss_one (ps_ret pe_int))), ?_⟩
    walk_at "rd"
    refine ite2 (fun c => ?_) (fun c => ?_)
    · have c := of_decide_eq_true c
      obtain ⟨j, rfl⟩ := Int.eq_ofNat_of_zero_le hk
      rw [List.length_map] at c
      have hj : j < ns.length := by omega
      walk_at "rd"
      refine ⟨_, _, _, .int ns[j], rfl, rfl, hS, atI_nat (by rw [List.getElem?_map, List.getElem?_eq_getElem hj]; rfl), ?_⟩
      exact q _ (hb _ (List.getElem_mem hj))
    · walk_at "rd"
      exact q 0 (bd_mono (bd_lit (i := 0)) (by decide))

def sp__law_draw  : Sp := fun vs H Q E => ∃ (c k m : Int), vs = [.int c, .int k, .int m] ∧ Bd 2200000 c ∧ (0 ≤ k ∧ k ≤ 1000) ∧ (1 ≤ m ∧ m ≤ 1000000) ∧ ∀ d H2, Same H H2 → 0 ≤ d → d < m → Q (.int d) H2
theorem ok__law_draw (T : Txt K mg) : FnOk P w K mg base CX0 1 T.a__law_draw T.d__law_draw ["_law_cell", "_law_k", "_law_many"] (sp__law_draw ) := by
  refine T.F__law_draw.ok sc__law_draw (fun vs H Q E h => ?_) (fun cdv A outer s H vs Q E hr h => ?_)
  · obtain ⟨_, _, _, rfl, _⟩ := h
    rfl
  · have hu := hu_of hr
    obtain ⟨c, k, m, rfl, bc, ⟨hk, hk2⟩, ⟨hm, hm2⟩, q⟩ := h
    refine ⟨_, (pss_cons (ps_set (i := 3) sc__law_draw.nd rfl (Or.inl rfl) (pe_tupA (pa_cons pe_int (pa_cons pe_int (pa_cons pe_int (pa_cons pe_int (pa_cons pe_int (pa_cons pe_int (pa_cons pe_int (pa_cons pe_int (pa_cons pe_int (pa_cons pe_int (pa_cons pe_int (pa_cons pe_int (pa_cons pe_int (pa_cons pe_int (pa_cons pe_int (pa_cons pe_int pa_nil)))))))))))))))))) (pss_one (ps_ret (pe_op oMod (pe_op oMod (pe_op op_add (pe_op oMul (pv 0) pe_int) (pe_op oMul (pv 1) pe_int)) (pe_ix ix_tup (pv 3) (pe_op oMod (pv 1) pe_int) (fun _ _ => rfl))) (pv 2))))), ?_⟩
    walk_at "rd"
    intro p H1 np e1 hp
    have bk : Bd 64 k := bd_lt hk (by omega)
    walk_at "rd"
    obtain ⟨v, hv, hv0⟩ := prime_at k
    refine ⟨_, _, _, _, rfl, rfl, SqT.of hp, hv, ?_⟩
    walk_at "rd"
    exact q _ _ e1 (Int.emod_nonneg _ (by omega)) (Int.emod_lt_of_pos _ (by omega))

def sp__law_number  : Sp := fun vs H Q E => ∃ (c k l : Int), vs = [.int c, .int k, .int l] ∧ Bd 1048577 c ∧ (0 ≤ k ∧ k ≤ 200) ∧ (1 ≤ l ∧ l ≤ 1000000) ∧ ∀ n H2, Same H H2 → 0 ≤ n → Bd 134 n → Q (.int n) H2
theorem ok__law_number (T : Txt K mg) : FnOk P w K mg base CX0 2 T.a__law_number T.d__law_number ["_law_cell", "_law_k", "_law_limit"] (sp__law_number ) := by
  refine T.F__law_number.ok sc__law_number (fun vs H Q E h => ?_) (fun cdv A outer s H vs Q E hr h => ?_)
  · obtain ⟨_, _, _, rfl, _⟩ := h
    rfl
  · have hu := hu_of hr
    obtain ⟨c, k, l, rfl, bc, ⟨hk, hk2⟩, ⟨hl, hl2⟩, q⟩ := h
    refine ⟨_, (pss_cons (ps_if (pt_cmpR op_ge (pv 0) (pe_op oP18 pe_int pe_int) (nomark _)) (pss_one (ps_ret (pe_op oMod (pe_op op_sub (pv 0) (pe_op oP18 pe_int pe_int)) (pe_op oP40 pe_int pe_int)))) pss_nil) (pss_one (ps_ret (pe_call (ok__law_draw (P := P) (w := w) (base := base) T) (hr.mono (by decide : 1 ≤ _)) (by rfl) T.g__law_draw T.F__law_draw.kp T.b__law_draw .nil pass0 (pa_cons (pe_op oMul (pe_op op_add (pv 0) (pe_op oMul pe_int (pv 1))) (pe_op op_add (pe_op op_add (pv 0) (pe_op oMul pe_int (pv 1))) pe_int)) (pa_cons (pe_op op_add (pe_op oMod (pv 1) pe_int) pe_int) (pa_cons (pv 2) pa_nil))))))), ?_⟩
    have bk : Bd 64 k := bd_lt hk (by omega)
    walk_at "rd"
    refine ite2 (fun z => ?_) (fun z => ?_)
    · walk_at "rd"
      refine q _ _ (Same.refl _) (Int.emod_nonneg _ (by omega)) (bd_lt (Int.emod_nonneg _ (by omega)) (Int.lt_trans (Int.emod_lt_of_pos _ (by decide)) (by decide)))
    · walk_at "rd"
      intro d H2 e h0 h1
      exact q _ _ e h0 (bd_lt h0 (Int.lt_of_lt_of_le h1 (Int.le_trans hl2 (by decide))))

def sp__law_root  : Sp := fun vs H Q E => ∃ (n : Int), vs = [.int n] ∧ 0 ≤ n ∧ Bd 8000 n ∧ Q (.int (rt n)) H
theorem ok__law_root (T : Txt K mg) : FnOk P w K mg base CX0 1 T.a__law_root T.d__law_root ["_law_number_here"] (sp__law_root ) := by
  refine T.F__law_root.ok sc__law_root (fun vs H Q E h => ?_) (fun cdv A outer s H vs Q E hr h => ?_)
  · obtain ⟨_, rfl, _⟩ := h
    rfl
  · have hu := hu_of hr
    obtain ⟨n, rfl, hn, bn, q⟩ := h
    refine ⟨_, (pss_cons (ps_set (i := 1) sc__law_root.nd rfl (Or.inl rfl) pe_int) (pss_cons (ps_while PassesOwn.never (pt_cmpR op_le (pe_op oMul (pv 1) (pv 1)) (pv 0) (nomark _)) (pss_one (ps_set (i := 1) sc__law_root.nd rfl (Or.inl rfl) (pe_op oMul pe_int (pv 1))))) (pss_cons (ps_while PassesOwn.never (pt_cmpR op_gt (pe_op oMul (pv 1) (pv 1)) (pv 0) (nomark _)) (pss_one (ps_set (i := 1) sc__law_root.nd rfl (Or.inl rfl) (pe_op oDiv (pe_op op_add (pv 1) (pe_op oDiv (pv 0) (pv 1))) pe_int)))) (pss_one (ps_ret (pv 1)))))), ?_⟩
    walk_at "rd"
    refine ⟨fun m σ H' => H' = H ∧ ∃ x : Int, σ = [some (.int n), some (.int x)] ∧ 1 ≤ x ∧ Bd 8011 x ∧ m = (n + 1 - x).toNat, ⟨_, rfl, _, rfl, by decide, bd_mono (bd_lit (i := 1)) (by decide), rfl⟩, ?_⟩
    rintro m σ H' ⟨rfl, x, rfl, hx, bx, rfl⟩
    walk_at "rd"
    refine ite2 (fun c => ?_) (fun c => ?_)
    · have c := of_decide_eq_true c
      have hxn : x ≤ n := by
        have : x * 1 ≤ x * x := Int.mul_le_mul_of_nonneg_left hx (by omega)
        omega
      have bx2 : Bd 8000 x := bd_le bn (by omega) hxn
      refine ⟨fun σ' H2 => H2 = H' ∧ ∃ y : Int, σ' = [some (.int n), some (.int y)] ∧ 1 ≤ y ∧ Bd 8011 y ∧ x < y, ?_, ?_⟩
      · rintro σ' H2 ⟨rfl, y, rfl, y1, y2, y3⟩
        exact ⟨(n + 1 - y).toNat, by omega, rfl, y, rfl, y1, y2, rfl⟩
      · walk_at "rd"
        exact ⟨rfl, _, rfl, by omega, bd_mono (bd_mul (show Bd 11 1024 from ⟨by decide⟩) bx2) (by decide), by omega⟩
    · have c : ¬ x * x ≤ n := fun z => c (decide_eq_true z)
      have hr0 : rt n ≤ x := by
        have h1 := rt_sq hn
        have h2 := sq_lt_imp (a := rt n) (b := x) (by omega) (by omega)
        omega
      have hx0 : 0 ≤ x := by omega
      have bx0 : Bd 8020 x := bd_mono bx (by decide)
      refine ⟨fun m σ H'' => H'' = H' ∧ ∃ x : Int, σ = [some (.int n), some (.int x)] ∧ 0 ≤ x ∧ rt n ≤ x ∧ Bd 8020 x ∧ m = x.toNat, ⟨_, rfl, _, rfl, hx0, hr0, bx0, rfl⟩, ?_⟩
      rintro m σ H3 ⟨rfl, x, rfl, hx, hr', bx, rfl⟩
      walk_at "rd"
      refine ite2 (fun c => ?_) (fun c => ?_)
      · have c := of_decide_eq_true c
        obtain ⟨n1, n2, n3, n4⟩ := newton hn hx hr' c
        refine ⟨fun σ' H2 => H2 = H3 ∧ ∃ y : Int, σ' = [some (.int n), some (.int y)] ∧ 0 ≤ y ∧ rt n ≤ y ∧ Bd 8020 y ∧ y < x, ?_, ?_⟩
        · rintro σ' H2 ⟨rfl, y, rfl, y1, y2, y3, y4⟩
          exact ⟨y.toNat, by omega, rfl, y, rfl, y1, y2, y3, rfl⟩
        · walk_at "rd"
          exact ⟨rfl, _, rfl, n2, n3, bd_le bx n2 (by omega), n4⟩
      · have e := newton_end hn hr' (fun z => c (decide_eq_true z))
        walk_at "rd"
        rw [e]
        exact q

def sp__law_pair  : Sp := fun vs H Q E => ∃ (t n : Int), vs = [.int t, .int n] ∧ Bd 900 t ∧ Bd 900 n ∧ ∀ p H2, H p = none → Same H H2 → Pr H2 p (les t n) (oth t n) → Q (.ref p) H2
theorem ok__law_pair (T : Txt K mg) : FnOk P w K mg base CX0 2 T.a__law_pair T.d__law_pair ["_law_by", "_law_at"] (sp__law_pair ) := by
  refine T.F__law_pair.ok sc__law_pair (fun vs H Q E h => ?_) (fun cdv A outer s H vs Q E hr h => ?_)
  · obtain ⟨_, _, rfl, _⟩ := h
    rfl
  · have hu := hu_of hr
    obtain ⟨t, n, rfl, bt, bn, q⟩ := h
    refine ⟨_, (pss_cons (ps_set (i := 2) sc__law_pair.nd rfl (Or.inl rfl) (pe_op oMul (pe_op oMul (pv 1) (pv 1)) (pe_op op_add (pe_op oMul (pv 0) (pv 0)) pe_int))) (pss_cons (ps_set (i := 3) sc__law_pair.nd rfl (Or.inl rfl) (pe_op oDiv (pe_op op_add (pe_op oMul (pv 1) (pe_op op_sub pe_int (pv 0))) (pe_call (ok__law_root (P := P) (w := w) (base := base) T) (hr.mono (by decide : 1 ≤ _)) (by rfl) T.g__law_root T.F__law_root.kp T.b__law_root .nil pass0 (pa_cons (pv 2) pa_nil))) pe_int)) (pss_one (ps_ret (pe_tupA (pa_cons (pv 3) (pa_cons (pe_op op_add (pv 3) (pe_op oMul (pv 0) (pv 1))) pa_nil))))))), ?_⟩
    walk_at "rd"
    have hd := disc_nn t n
    walk_at "rd"
    exact fun p H2 np e hp => q p H2 np e hp

def sp__law_bound (K : PySem.W.Frag) : Sp := fun vs H Q E => ∃ (a : Addr) (ns : List Int) (k : Int), vs = [.ref a, .int k] ∧ SqL K H a (ns.map V.int) ∧ (0 ≤ k ∧ k ≤ 100) ∧ (∀ n ∈ ns, Bd 1048577 n) ∧ ∀ t H2, Same H H2 → 1 ≤ t → Bd 135 t → Q (.int t) H2
theorem ok__law_bound (T : Txt K mg) : FnOk P w K mg base CX0 3 T.a__law_bound T.d__law_bound ["_law_script", "_law_k"] (sp__law_bound K) := by
  refine T.F__law_bound.ok sc__law_bound (fun vs H Q E h => ?_) (fun cdv A outer s H vs Q E hr h => ?_)
  · obtain ⟨_, _, _, rfl, _⟩ := h
    rfl
  · have hu := hu_of hr
    obtain ⟨a, ns, k, rfl, hS, ⟨hk, hk2⟩, hb, q⟩ := h
    refine ⟨_, (pss_cons (ps_set (i := 2) sc__law_bound.nd rfl (Or.inl rfl) (pe_call (ok__law_cell_at (P := P) (w := w) (base := base) T) (hr.mono (by decide : 1 ≤ _)) (by rfl) T.g__law_cell_at T.F__law_cell_at.kp T.b__law_cell_at .nil pass0 (pa_cons (pv 0) (pa_cons (pe_op op_add (pv 1) pe_int) pa_nil)))) (pss_cons (ps_set (i := 3) sc__law_bound.nd rfl (Or.inl rfl) (pe_call (ok__law_number (P := P) (w := w) (base := base) T) (hr.mono (by decide : 2 ≤ _)) (by rfl) T.g__law_number T.F__law_number.kp T.b__law_number .nil pass0 (pa_cons (pv 2) (pa_cons (pv 1) (pa_cons pe_int pa_nil))))) (pss_one (ps_ret (pe_ix ix_tup (pe_tupA (pa_cons pe_int (pa_cons pe_int (pa_cons (pe_op op_add pe_int (pe_op oMod (pv 3) pe_int)) (pa_cons (pe_op op_add pe_int (pe_op oMod (pv 3) pe_int)) (pa_cons (pe_op op_add pe_int (pv 3)) pa_nil)))))) (pe_call (ok__law_draw (P := P) (w := w) (base := base) T) (hr.mono (by decide : 1 ≤ _)) (by rfl) T.g__law_draw T.F__law_draw.kp T.b__law_draw .nil pass0 (pa_cons (pe_op op_add (pe_op oMod (pv 2) (pe_op oP18 pe_int pe_int)) (pe_op oMul pe_int (pv 1))) (pa_cons pe_int (pa_cons pe_int pa_nil)))) (fun _ _ => rfl)))))), ?_⟩
    walk_at "rd"
    intro c bc
    walk_at "rd"
    intro n H1 e1 hn bn
    have hn9 := Int.emod_nonneg n (show (9 : Int) ≠ 0 by decide)
    have hn1 := Int.emod_nonneg n (show (1000 : Int) ≠ 0 by decide)
    have hm9 := Int.emod_lt_of_pos n (show (0 : Int) < 9 by decide)
    have hm1 := Int.emod_lt_of_pos n (show (0 : Int) < 1000 by decide)
    walk_at "rd"
    intro p H2 np e2 hp
    have bk : Bd 64 k := bd_lt hk (by omega)
    walk_at "rd"
    intro d H3 e3 h0 h1
    have hd : d = 0 ∨ d = 1 ∨ d = 2 ∨ d = 3 ∨ d = 4 := by omega
    rcases hd with rfl | rfl | rfl | rfl | rfl
    all_goals
      walk_at "ix"
      refine q _ _ (by walk_at "sm") ?_ ?_
      · first | decide | omega
      · first | exact bd_mono (bd_lit) (by decide) | exact bd_lt (by omega) (Int.lt_of_le_of_lt (show _ ≤ (1001 : Int) by omega) (by decide)) | exact bd_mono (bd_add bd_one bn) (by decide)

def sp__law_whole  : Sp := fun vs H Q E => ∃ (i : Int), vs = [.int i] ∧ Q (.bl true) H
theorem ok__law_whole (T : Txt K mg) : FnOk P w K mg base CX0 1 T.a__law_whole T.d__law_whole ["_law_number_here"] (sp__law_whole ) := by
  refine T.F__law_whole.ok sc__law_whole (fun vs H Q E h => ?_) (fun cdv A outer s H vs Q E hr h => ?_)
  · obtain ⟨_, rfl, _⟩ := h
    rfl
  · have hu := hu_of hr
    obtain ⟨i, rfl, q⟩ := h
    refine ⟨_, (pss_one (ps_ret (pe_and (pe_callB call_isi (by rfl) T.n_isinstance (by decide +kernel) (pa_cons (pv 0) (pa_cons (pe_bltn (v := .ty "int") (by rfl) T.n_int (by decide +kernel) rfl) pa_nil))) (pe_one (pe_not (pe_callB call_isi (by rfl) T.n_isinstance (by decide +kernel) (pa_cons (pv 0) (pa_cons (pe_bltn (v := .ty "bool") (by rfl) T.n_bool (by decide +kernel) rfl) pa_nil)))))))), ?_⟩
    walk_at "rd"
    exact q

def sp__law_is_pair  : Sp := fun vs H Q E => ∃ (p : Addr) (a b : Int), vs = [.ref p] ∧ Pr H p a b ∧ Q (.bl true) H
theorem ok__law_is_pair (T : Txt K mg) : FnOk P w K mg base CX0 2 T.a__law_is_pair T.d__law_is_pair ["_law_found"] (sp__law_is_pair ) := by
  refine T.F__law_is_pair.ok sc__law_is_pair (fun vs H Q E h => ?_) (fun cdv A outer s H vs Q E hr h => ?_)
  · obtain ⟨_, _, _, rfl, _⟩ := h
    rfl
  · have hu := hu_of hr
    obtain ⟨p, a, b, rfl, hp, q⟩ := h
    refine ⟨_, (pss_one (ps_ret (pe_and (pe_callB call_isi (by rfl) T.n_isinstance (by decide +kernel) (pa_cons (pv 0) (pa_cons (pe_bltn (v := .ty "tuple") (by rfl) T.n_tuple (by decide +kernel) rfl) pa_nil))) (pe_and (pe_cmpR oEq (pe_callB call_len (by rfl) T.n_len (by decide +kernel) (pa_cons (pv 0) pa_nil)) pe_int (nomark _)) (pe_and (pe_call (ok__law_whole (P := P) (w := w) (base := base) T) (hr.mono (by decide : 1 ≤ _)) (by rfl) T.g__law_whole T.F__law_whole.kp T.b__law_whole .nil pass0 (pa_cons (pe_ix ix_tup (pv 0) pe_int (fun _ _ => rfl)) pa_nil)) (pe_one (pe_call (ok__law_whole (P := P) (w := w) (base := base) T) (hr.mono (by decide : 1 ≤ _)) (by rfl) T.g__law_whole T.F__law_whole.kp T.b__law_whole .nil pass0 (pa_cons (pe_ix ix_tup (pv 0) pe_int (fun _ _ => rfl)) pa_nil)))))))), ?_⟩
    walk_at "rd"
    exact q

def sp__law_right  : Sp := fun vs H Q E => ∃ (t n : Int), vs = [.int t, .int n] ∧ 1 ≤ t ∧ 0 ≤ n ∧ Bd 140 t ∧ Bd 140 n ∧ ∀ H2, Same H H2 → Q (.bl true) H2
theorem ok__law_right (T : Txt K mg) : FnOk P w K mg base CX0 5 T.a__law_right T.d__law_right ["_law_bound_here", "_law_number_here"] (sp__law_right ) := by
  refine T.F__law_right.ok sc__law_right (fun vs H Q E h => ?_) (fun cdv A outer s H vs Q E hr h => ?_)
  · obtain ⟨_, _, rfl, _⟩ := h
    rfl
  · have hu := hu_of hr
    obtain ⟨t, n, rfl, ht, hn, bt, bn, q⟩ := h
    refine ⟨_, (pss_cons (ps_par (i := 2) (j := 3) (by rfl) sc__law_right.nd rfl rfl (by decide) rfl rfl (pa_cons (pe_call (ok_pair_by (P := P) (w := w) (base := base) T) (hr.mono (by decide : 4 ≤ _)) (by rfl) T.g_pair_by T.F_pair_by.kp T.b_pair_by .nil pass0 (pa_cons (pv 0) (pa_cons (pv 1) pa_nil))) (pa_cons (pe_call (ok_pair_by (P := P) (w := w) (base := base) T) (hr.mono (by decide : 4 ≤ _)) (by rfl) T.g_pair_by T.F_pair_by.kp T.b_pair_by .nil pass0 (pa_cons (pv 0) (pa_cons (pe_op op_add (pv 1) pe_int) pa_nil))) pa_nil)) (by rfl)) (pss_cons (ps_if (PW.pt (pw_or (pt_not (pt_val (pe_call (ok__law_is_pair (P := P) (w := w) (base := base) T) (hr.mono (by decide : 2 ≤ _)) (by rfl) T.g__law_is_pair T.F__law_is_pair.kp T.b__law_is_pair .nil pass0 (pa_cons (pv 2) pa_nil)))) (pw_or1 (pt_cmpR (oNeP hr.units) (pv 2) (pe_call (ok__law_pair (P := P) (w := w) (base := base) T) (hr.mono (by decide : 2 ≤ _)) (by rfl) T.g__law_pair T.F__law_pair.kp T.b__law_pair .nil pass0 (pa_cons (pv 0) (pa_cons (pv 1) pa_nil))) (nomark _))))) (pss_one (ps_ret pe_bl)) pss_nil) (pss_cons (ps_if (pt_cmpR oNe (pe_op op_sub (pe_ix ix_tup (pv 2) pe_int (fun _ _ => rfl)) (pe_ix ix_tup (pv 2) pe_int (fun _ _ => rfl))) (pe_op oMul (pv 0) (pv 1)) (nomark _)) (pss_one (ps_ret pe_bl)) pss_nil) (pss_cons (ps_if (PW.pt (pw_or (pt_not (pt_cmpR op_lt (pe_ix ix_tup (pv 2) pe_int (fun _ _ => rfl)) (pe_ix ix_tup (pv 3) pe_int (fun _ _ => rfl)) (nomark _))) (pw_or1 (pt_not (pt_cmpR op_lt (pe_ix ix_tup (pv 2) pe_int (fun _ _ => rfl)) (pe_ix ix_tup (pv 3) pe_int (fun _ _ => rfl)) (nomark _)))))) (pss_one (ps_ret pe_bl)) pss_nil) (pss_cons (ps_if (pt_cmpR oEq (pv 1) pe_int (nomark _)) (pss_one (ps_ret (pe_cmpR (oEqP hr.units) (pv 2) (pe_tupA (pa_cons pe_int (pa_cons pe_int pa_nil))) (nomark _)))) pss_nil) (pss_cons (ps_for PassesOwn.never rfl (pi_tup (pv 2)) (pg_name (i := 4) sc__law_right.nd rfl (Or.inl rfl)) (pss_one (ps_if (pt_cmpR oNe (pe_call (ok_pair_with (P := P) (w := w) (base := base) T) (hr.mono (by decide : 4 ≤ _)) (by rfl) T.g_pair_with T.F_pair_with.kp T.b_pair_with .nil pass0 (pa_cons (pv 0) (pa_cons (pv 4) pa_nil))) (pv 1) (nomark _)) (pss_one (ps_ret pe_bl)) pss_nil))) (pss_one (ps_ret (pe_cmpR oInP (pv 1) (pe_call (ok_pair_by (P := P) (w := w) (base := base) T) (hr.mono (by decide : 4 ≤ _)) (by rfl) T.g_pair_by T.F_pair_by.kp T.b_pair_by .nil pass0 (pa_cons (pv 0) (pa_cons (pe_call (ok_pair_with (P := P) (w := w) (base := base) T) (hr.mono (by decide : 4 ≤ _)) (by rfl) T.g_pair_with T.F_pair_with.kp T.b_pair_with .nil pass0 (pa_cons (pv 0) (pa_cons (pv 1) pa_nil))) pa_nil))) (by rfl)))))))))), ?_⟩
    have l1 := les_mono ht hn (show n < n + 1 by omega)
    have l2 := oth_mono ht hn (show n < n + 1 by omega)
    have l3 := les_ge ht hn
    have l4 := les_le_oth ht hn
    have l5 : oth t n = les t n + t * n := rfl
    have l6 := les_le ht hn
    walk_at "rd"
    intro p1 H1 np1 e1 hp1
    walk_at "rd"
    intro p2 H2 np2 e2 hp2
    walk_at "rd"
    intro p3 H3 np3 e3 hp3
    walk_at "rd"
    refine ite2 (fun c => ?_) (fun c => ?_)
    · simp at c
    walk_at "rd"
    refine ite2 (fun c => ?_) (fun c => ?_)
    · simp at c
      omega
    walk_at "rd"
    refine ite2 (fun c => ?_) (fun c => ?_)
    · simp at c
      omega
    walk_at "rd"
    refine ite2 (fun c => ?_) (fun c => ?_)
    · simp at c
      omega
    walk_at "rd"
    refine ite2 (fun c => ?_) (fun c => ?_)
    · simp at c
      subst c
      walk_at "rd"
      intro p4 H4 np4 e4 hp4
      walk_at "rd"
      rw [les0, oth0]
      exact q _ (by walk_at "sm")
    have hn1 : 1 ≤ n := by
      simp at c
      omega
    have b1 : Bd 700 (les t n) := bd_le (j := 2 * n) (bd_mono (bd_mul (bd_lit (i := 2)) bn) (by decide)) (by omega) l6
    have b2 : Bd 700 (oth t n) := bd_le (j := 2 * n + t * n) (bd_mono (bd_add (bd_mul (bd_lit (i := 2)) bn) (bd_mul bt bn)) (by decide)) (by omega) (by omega)
    have hp4 := plc_ok ht hn1
    have hp5 := plc_le ht hn1
    have b3 : Bd 140 (plc t n) := bd_le bn (by omega) hp5
    walk_at "rd"
    refine ⟨⟨_, SqT.of (by walk_at "hp")⟩, for_tup (xs := [.int (les t n), .int (oth t n)]) (fun i σ H' => ∃ y, σ = [some (.int t), some (.int n), some (.ref p1), some (.ref p2), y] ∧ Same H3 H') ⟨_, rfl, Same.refl _⟩ (fun i σ H' _ ⟨_, _, e⟩ => SqT.of (by walk_at "hp")) ?_ ?_⟩
    · rintro i x σ H' hx ⟨y, rfl, e4⟩
      have hx' : ∃ o, x = .int o ∧ inp t n o ∧ 1 ≤ o ∧ Bd 700 o := by
        rcases i with _ | _ | i
        · exact ⟨_, (Option.some.inj hx).symm, .inl rfl, by omega, b1⟩
        · exact ⟨_, (Option.some.inj hx).symm, .inr rfl, by omega, b2⟩
        · simp at hx
      obtain ⟨o, rfl, ho, ho1, bo⟩ := hx'
      walk_at "rd"
      refine ite2 (fun c => ?_) (fun c => ?_)
      · simp at c
        exact absurd (plc_eq ht hn ho1 ho) c
      · exact ⟨_, rfl, e4⟩
    · rintro σ H' ⟨y, rfl, e4⟩
      walk_at "rd"
      intro p5 H5 np5 e5 hp5
      walk_at "rd"
      have z : decide (les t (plc t n) = n ∨ oth t (plc t n) = n) = true := decide_eq_true hp4.2
      rw [z]
      exact q _ (by walk_at "sm")

def sp__law_first_right  : Sp := fun vs H Q E => ∃ (t : Int), vs = [.int t] ∧ 1 ≤ t ∧ Bd 140 t ∧ ∀ H2, Same H H2 → Q (.bl true) H2
theorem ok__law_first_right (T : Txt K mg) : FnOk P w K mg base CX0 5 T.a__law_first_right T.d__law_first_right ["_law_bound_here"] (sp__law_first_right ) := by
  refine T.F__law_first_right.ok sc__law_first_right (fun vs H Q E h => ?_) (fun cdv A outer s H vs Q E hr h => ?_)
  · obtain ⟨_, rfl, _⟩ := h
    rfl
  · have hu := hu_of hr
    obtain ⟨t, rfl, ht, bt, q⟩ := h
    refine ⟨_, (pss_cons (ps_par (i := 1) (j := 2) (by rfl) sc__law_first_right.nd rfl rfl (by decide) rfl rfl (pa_cons pe_dnewK (pa_cons pe_int pa_nil)) (by rfl)) (pss_cons (ps_for PassesOwn.never rfl (pi_range2 (by rfl) T.n_range (pa_cons pe_int (pa_cons pe_int pa_nil))) (pg_name (i := 3) sc__law_first_right.nd rfl (Or.inl rfl)) (pss_cons (ps_while PassesOwn.never (pt_cmp (pc_din hu (pv 2) (pv 1))) (pss_one (ps_set (i := 2) sc__law_first_right.nd rfl (Or.inl rfl) (pe_op op_add (pv 2) pe_int)))) (pss_cons (ps_if (pt_cmpR (oNeP hr.units) (pe_call (ok_pair_by (P := P) (w := w) (base := base) T) (hr.mono (by decide : 4 ≤ _)) (by rfl) T.g_pair_by T.F_pair_by.kp T.b_pair_by .nil pass0 (pa_cons (pv 0) (pa_cons (pv 3) pa_nil))) (pe_tupA (pa_cons (pv 2) (pa_cons (pe_op op_add (pv 2) (pe_op oMul (pv 0) (pv 3))) pa_nil))) (nomark _)) (pss_one (ps_ret pe_bl)) pss_nil) (pss_cons (ps_dput hu (pv 1) (pv 2) pe_bl rfl) (pss_one (ps_dput hu (pv 1) (pe_op op_add (pv 2) (pe_op oMul (pv 0) (pv 3))) pe_bl rfl)))))) (pss_one (ps_ret pe_bl)))), ?_⟩
    walk_at "rd"
    intro D nD
    walk_at "rd"
    refine for_range (lo := 1) (n := 30) (fun i σ H' => ∃ (kvs : List (Key × V)) (now : Int) (y : Option V), σ = [some (.int t), some (.ref D), some (.int now), y] ∧ Same H H' ∧ H' D = some (.dK kvs) ∧ kvs.length ≤ 2 * i ∧ (1 ≤ now ∧ now ≤ les t (1 + (i : Int))) ∧ SeenTo t kvs i) ?_ ?_ ?_
    · exact ⟨[], 1, none, rfl, Same.new nD, upd_same, Nat.le_refl _, ⟨by decide, les_ge ht (by decide)⟩, seen0 t⟩
    · rintro i σ H1 hi ⟨kvs, now0, y, rfl, e1, hD, hl, ⟨h1, h2⟩, hk⟩
      have bN : Bd 64 (1 + (i : Int)) := bd_lt (by omega) (by omega)
      have hN : 1 ≤ 1 + (i : Int) := by omega
      walk_at "rd"
      refine ⟨fun m σ H2 => H2 = H1 ∧ ∃ now : Int, σ = [some (.int t), some (.ref D), some (.int now), some (.int (1 + (i : Int)))] ∧ (1 ≤ now ∧ now ≤ les t (1 + (i : Int))) ∧ m = (les t (1 + (i : Int)) - now).toNat, ⟨_, rfl, _, rfl, ⟨h1, h2⟩, rfl⟩, ?_⟩
      rintro m σ H2 ⟨rfl, now, rfl, ⟨g1, g2⟩, rfl⟩
      walk_at "rd"
      refine ⟨D, _, rfl, DGet.k (k := Sum.inl now) hD, ?_⟩
      walk_at "rd"
      refine ite2 (fun c => ?_) (fun c => ?_)
      · have g3 := seen_lt ht hk g1 g2 c
        refine ⟨fun σ' H3 => H3 = H2 ∧ ∃ z : Int, σ' = [some (.int t), some (.ref D), some (.int z), some (.int (1 + (i : Int)))] ∧ (1 ≤ z ∧ z ≤ les t (1 + (i : Int))) ∧ now < z, ?_, ?_⟩
        · rintro σ' H3 ⟨rfl, z, rfl, z1, z2⟩
          exact ⟨_, by omega, rfl, z, rfl, z1, rfl⟩
        · walk_at "rd"
          exact ⟨rfl, _, rfl, by omega, by omega⟩
      · have g3 := seen_end ht hk g1 g2 c
        subst g3
        walk_at "rd"
        intro p H3 np e3 hp
        walk_at "rd"
        intro p2 H4 np2 e4 hp2
        walk_at "rd"
        refine ite2 (fun c => ?_) (fun c => ?_)
        · simp [oth] at c
        · have hD4 : H4 D = some (.dK kvs) := by walk_at "hp"
          walk_at "rd"
          refine ⟨D, _, rfl, DPut.k (k := Sum.inl (les t (1 + (i : Int)))) hD4 (line_lt (n := 100) (by omega) rfl), ?_⟩
          walk_at "rd"
          have l1 := putK_le kvs (Sum.inl (les t (1 + (i : Int)))) (V.bl true)
          have l2 := putK_le (putK kvs (Sum.inl (les t (1 + (i : Int)))) (V.bl true)) (Sum.inl (les t (1 + (i : Int)) + t * (1 + (i : Int)))) (V.bl true)
          refine ⟨D, _, rfl, DPut.k (k := Sum.inl (les t (1 + (i : Int)) + t * (1 + (i : Int)))) upd_same (line_lt (n := 100) (by omega) rfl), ?_⟩
          have e9 : Same H H4 := by walk_at "sm"
          have e10 : (1 : Int) + ((i + 1 : Nat) : Int) = 1 + (i : Int) + 1 := by omega
          refine ⟨_, _, _, rfl, fun b o hb => ?_, upd_same, by omega, ⟨by omega, ?_⟩, seen_next ht hk⟩
          · have nb : b ≠ D := fun z => by rw [z, nD] at hb; cases hb
            rw [upd_ne nb, upd_ne nb]
            exact e9 b o hb
          · rw [e10]
            have := les_mono ht (show 0 ≤ 1 + (i : Int) by omega) (show 1 + (i : Int) < 1 + (i : Int) + 1 by omega)
            omega
    · rintro σ H1 ⟨kvs, now0, y, rfl, e1, _⟩
      exact q _ e1

def sp_law (K : PySem.W.Frag) : Sp := fun vs H Q E => ∃ (a : Addr) (ns : List Int), vs = [.ref a] ∧ SqL K H a (ns.map V.int) ∧ ns.length ≤ 63 ∧ (∀ n ∈ ns, Bd 1048577 n) ∧ ∀ H', Q (.bl true) H'
theorem ok_law (T : Txt K mg) : FnOk P w K mg base CX0 6 T.a_law T.d_law ["_law_script"] (sp_law K) := by
  refine T.F_law.ok sc_law (fun vs H Q E h => ?_) (fun cdv A outer s H vs Q E hr h => ?_)
  · obtain ⟨_, _, rfl, _⟩ := h
    rfl
  · have hu := hu_of hr
    obtain ⟨a, ns, rfl, hS, hlen, hb, q⟩ := h
    refine ⟨_, (pss_cons (ps_set (i := 0) sc_law.nd rfl (Or.inl rfl) (pe_slice sl_list (pv 0) po_none (po_some pe_int))) (pss_cons (ps_for PassesOwn.never rfl (pi_range3 (by rfl) T.n_range (pa_cons pe_int (pa_cons (pe_callB call_len (by rfl) T.n_len (by decide +kernel) (pa_cons (pv 0) pa_nil)) (pa_cons (pe_op op_add pe_int (pe_op oDiv (pe_callB call_len (by rfl) T.n_len (by decide +kernel) (pa_cons (pv 0) pa_nil)) pe_int)) pa_nil)))) (pg_name (i := 1) sc_law.nd rfl (Or.inl rfl)) (pss_cons (ps_par (i := 2) (j := 3) (by rfl) sc_law.nd rfl rfl (by decide) rfl rfl (pa_cons (pe_call (ok__law_bound (P := P) (w := w) (base := base) T) (hr.mono (by decide : 3 ≤ _)) (by rfl) T.g__law_bound T.F__law_bound.kp T.b__law_bound .nil pass0 (pa_cons (pv 0) (pa_cons (pv 1) pa_nil))) (pa_cons (pe_call (ok__law_cell_at (P := P) (w := w) (base := base) T) (hr.mono (by decide : 1 ≤ _)) (by rfl) T.g__law_cell_at T.F__law_cell_at.kp T.b__law_cell_at .nil pass0 (pa_cons (pv 0) (pa_cons (pv 1) pa_nil))) pa_nil)) (by rfl)) (pss_cons (ps_set (i := 4) sc_law.nd rfl (Or.inl rfl) (pe_call (ok__law_number (P := P) (w := w) (base := base) T) (hr.mono (by decide : 2 ≤ _)) (by rfl) T.g__law_number T.F__law_number.kp T.b__law_number .nil pass0 (pa_cons (pv 3) (pa_cons (pv 1) (pa_cons (pe_ix ix_tup (pe_tupA (pa_cons pe_int (pa_cons pe_int pa_nil))) (pe_call (ok__law_draw (P := P) (w := w) (base := base) T) (hr.mono (by decide : 1 ≤ _)) (by rfl) T.g__law_draw T.F__law_draw.kp T.b__law_draw .nil pass0 (pa_cons (pe_op oMod (pv 3) (pe_op oP18 pe_int pe_int)) (pa_cons pe_int (pa_cons pe_int pa_nil)))) (fun _ _ => rfl)) pa_nil))))) (pss_one (ps_for PassesOwn.never rfl (pi_tup (pe_tupA (pa_cons (pv 4) (pa_cons (pe_op op_add (pv 4) pe_int) (pa_cons (pe_callB (call_max2 rfl) (by rfl) T.n_max (by decide +kernel) (pa_cons pe_int (pa_cons (pe_op op_sub (pv 4) pe_int) pa_nil))) pa_nil))))) (pg_name (i := 5) sc_law.nd rfl (Or.inl rfl)) (pss_cons (ps_if (pt_not (pt_val (pe_call (ok__law_right (P := P) (w := w) (base := base) T) (hr.mono (by decide : 5 ≤ _)) (by rfl) T.g__law_right T.F__law_right.kp T.b__law_right .nil pass0 (pa_cons (pv 2) (pa_cons (pv 5) pa_nil))))) (pss_one (ps_ret pe_bl)) pss_nil) (pss_cons (ps_set (i := 6) sc_law.nd rfl (Or.inl rfl) (pe_call (ok_pair_with (P := P) (w := w) (base := base) T) (hr.mono (by decide : 4 ≤ _)) (by rfl) T.g_pair_with T.F_pair_with.kp T.b_pair_with .nil pass0 (pa_cons (pv 2) (pa_cons (pe_op op_add (pv 5) pe_int) pa_nil)))) (pss_one (ps_if (PW.pt (pw_or (pt_not (pt_val (pe_call (ok__law_whole (P := P) (w := w) (base := base) T) (hr.mono (by decide : 1 ≤ _)) (by rfl) T.g__law_whole T.F__law_whole.kp T.b__law_whole .nil pass0 (pa_cons (pv 6) pa_nil)))) (pw_or1 (pt_cmpR oNotInP (pe_op op_add (pv 5) pe_int) (pe_call (ok__law_pair (P := P) (w := w) (base := base) T) (hr.mono (by decide : 2 ≤ _)) (by rfl) T.g__law_pair T.F__law_pair.kp T.b__law_pair .nil pass0 (pa_cons (pv 2) (pa_cons (pv 6) pa_nil))) (by rfl))))) (pss_one (ps_ret pe_bl)) pss_nil))))))))) (pss_cons (ps_for PassesOwn.never rfl (pi_tup (pe_tupA (pa_cons pe_int (pa_cons pe_int (pa_cons (pe_call (ok__law_bound (P := P) (w := w) (base := base) T) (hr.mono (by decide : 3 ≤ _)) (by rfl) T.g__law_bound T.F__law_bound.kp T.b__law_bound .nil pass0 (pa_cons (pv 0) (pa_cons pe_int pa_nil))) pa_nil))))) (pg_name (i := 2) sc_law.nd rfl (Or.inl rfl)) (pss_one (ps_if (pt_not (pt_val (pe_call (ok__law_first_right (P := P) (w := w) (base := base) T) (hr.mono (by decide : 5 ≤ _)) (by rfl) T.g__law_first_right T.F__law_first_right.kp T.b__law_first_right .nil pass0 (pa_cons (pv 2) pa_nil)))) (pss_one (ps_ret pe_bl)) pss_nil))) (pss_one (ps_ret (pe_and (pe_cmpR (oEqP hr.units) (pe_call (ok_pair_by (P := P) (w := w) (base := base) T) (hr.mono (by decide : 4 ≤ _)) (by rfl) T.g_pair_by T.F_pair_by.kp T.b_pair_by .nil pass0 (pa_cons pe_int (pa_cons pe_int pa_nil))) (pe_tupA (pa_cons pe_int (pa_cons pe_int pa_nil))) (nomark _)) (pe_and (pe_cmpR (oEqP hr.units) (pe_call (ok_pair_by (P := P) (w := w) (base := base) T) (hr.mono (by decide : 4 ≤ _)) (by rfl) T.g_pair_by T.F_pair_by.kp T.b_pair_by .nil pass0 (pa_cons pe_int (pa_cons pe_int pa_nil))) (pe_tupA (pa_cons pe_int (pa_cons pe_int pa_nil))) (nomark _)) (pe_and (pe_cmpR oEq (pe_call (ok_pair_with (P := P) (w := w) (base := base) T) (hr.mono (by decide : 4 ≤ _)) (by rfl) T.g_pair_with T.F_pair_with.kp T.b_pair_with .nil pass0 (pa_cons pe_int (pa_cons pe_int pa_nil))) pe_int (nomark _)) (pe_one (pe_cmpR (oEqP hr.units) (pe_call (ok_pair_by (P := P) (w := w) (base := base) T) (hr.mono (by decide : 4 ≤ _)) (by rfl) T.g_pair_by T.F_pair_by.kp T.b_pair_by .nil pass0 (pa_cons pe_int (pa_cons pe_int pa_nil))) (pe_tupA (pa_cons pe_int (pa_cons pe_int pa_nil))) (nomark _))))))))))), ?_⟩
    walk_at "rd"
    intro p np
    rw [cut63 hlen]
    have e1 : Same H (upd H p (.lst (ns.map V.int))) := Same.new np
    have hp1 : (upd H p (.lst (ns.map V.int))) p = some (.lst (ns.map V.int)) := upd_same
    generalize upd H p (.lst (ns.map V.int)) = H1 at *
    have hS1 : SqL K H1 p (ns.map V.int) := SqL.of hp1
    have hlen2 : (ns.map V.int).length ≤ 63 := by rw [List.length_map]; exact hlen
    walk_at "rd"
    refine ⟨_, _, _, _, rfl, rg_ok hlen2, for_rangeC (fun i σ H' => ∃ y1 y2 y3 y4 y5 y6, σ = [some (.ref p), y1, y2, y3, y4, y5, y6] ∧ Same H1 H') ⟨_, _, _, _, _, _,  rfl, Same.refl _⟩ ?_ ?_⟩
    · rintro i σ H2 hi ⟨y1, y2, y3, y4, y5, y6, rfl, e2⟩
      obtain ⟨hk, hk2⟩ := rg_at hlen2 hi
      generalize (0 : Int) + (i : Int) * (1 + ((ns.map V.int).length : Int) / 6) = k at *
      have hS2 : SqL K H2 p (ns.map V.int) := e2.seq hS1
      have bk : Bd 64 k := bd_lt hk (by omega)
      walk_at "rd"
    
      intro t H3 e3 ht bt
      walk_at "rd"
      intro c bc
      walk_at "rd"
      intro p2 H4 np2 e4 hp2
      walk_at "rd"
      intro d H5 e5 d0 d1
      obtain ⟨l, hl, hl2⟩ : ∃ l : Int, atI [V.int 30, V.int 900000] d = some (V.int l) ∧ (1 ≤ l ∧ l ≤ 1000000) := by
        rcases (show d = 0 ∨ d = 1 by omega) with rfl | rfl
        · exact ⟨30, rfl, by decide⟩
        · exact ⟨900000, rfl, by decide⟩
      refine ⟨_, _, _, _, rfl, rfl, SqT.of (by walk_at "hp"), hl, ?_⟩
      walk_at "rd"
      intro n H6 e6 hn bn
      walk_at "rd"
      intro p3 H7 np3 e7 hp3
      walk_at "rd"
      refine ⟨⟨_, SqT.of hp3⟩, for_tup (xs := [.int n, .int (n + 1), .int (if n - 1 > 0 then n - 1 else 0)]) (fun i σ H' => ∃ y5 y6, σ = [some (.ref p), some (.int k), some (.int t), some (.int c), some (.int n), y5, y6] ∧ Same H7 H') ⟨_, _, rfl, Same.refl _⟩ (fun i σ H' _ ⟨_, _, _, e⟩ => SqT.of (by walk_at "hp")) ?_ ?_⟩
      · rintro j x σ H8 hx ⟨y5, y6, rfl, e8⟩
        have hx' : ∃ s : Int, x = .int s ∧ 0 ≤ s ∧ Bd 135 s := by
          rcases j with _ | _ | _ | j
          · exact ⟨_, (Option.some.inj hx).symm, hn, bd_mono bn (by decide)⟩
          · exact ⟨_, (Option.some.inj hx).symm, by omega, bd_mono (bd_add bn bd_one) (by decide)⟩
          · refine ⟨_, (Option.some.inj hx).symm, by split <;> omega, bd_mono (bd_le bn (by split <;> omega) (by split <;> omega)) (by decide)⟩
          · simp at hx
        obtain ⟨s, rfl, hs, bs⟩ := hx'
        walk_at "rd"
        intro H9 e9
        have hp4 := plc_ok ht (show 1 ≤ s + 1 by omega)
        have hp5 := plc_le ht (show 1 ≤ s + 1 by omega)
        walk_at "rd"
        have b3 : Bd 136 (plc t (s + 1)) := bd_le (bd_mono (bd_add bs bd_one) (by decide)) (by omega) hp5
        walk_at "rd"
        intro p4 H10 np4 e10 hp6
        walk_at "rd"
        refine ite2 (fun c => ?_) (fun c => ?_)
        · have z : decide (les t (plc t (s + 1)) = s + 1 ∨ oth t (plc t (s + 1)) = s + 1) = true := decide_eq_true hp4.2
          rw [z] at c
          cases c
        · exact ⟨_, _, rfl, by walk_at "sm"⟩
      · rintro σ H8 ⟨y5, y6, rfl, e8⟩
        exact ⟨_, _, _, _, _, _, rfl, by walk_at "sm"⟩
    · rintro σ H2 ⟨y1, y2, y3, y4, y5, y6, rfl, e2⟩
      have hS2 : SqL K H2 p (ns.map V.int) := e2.seq hS1
      walk_at "rd"
      intro t H3 e3 ht bt
      walk_at "rd"
      intro p3 H7 np3 e7 hp3
      walk_at "rd"
      refine ⟨⟨_, SqT.of hp3⟩, for_tup (xs := [.int 1, .int 2, .int t]) (fun i σ H' => ∃ y1 y2 y3 y4 y5 y6, σ = [some (.ref p), y1, y2, y3, y4, y5, y6] ∧ Same H7 H') ⟨_, _, _, _, _, _, rfl, Same.refl _⟩ (fun i σ H' _ ⟨_, _, _, _, _, _, _, e⟩ => SqT.of (by walk_at "hp")) ?_ ?_⟩
      · rintro j x σ H8 hx ⟨z1, z2, z3, z4, z5, z6, rfl, e8⟩
        have hx' : ∃ s : Int, x = .int s ∧ 1 ≤ s ∧ Bd 135 s := by
          rcases j with _ | _ | _ | j
          · exact ⟨_, (Option.some.inj hx).symm, by decide, bd_mono bd_one (by decide)⟩
          · exact ⟨_, (Option.some.inj hx).symm, by decide, ⟨by decide⟩⟩
          · exact ⟨_, (Option.some.inj hx).symm, ht, bt⟩
          · simp at hx
        obtain ⟨s, rfl, hs, bs⟩ := hx'
        walk_at "rd"
        intro H9 e9
        walk_at "rd"
        exact ⟨_, _, _, _, _, _, rfl, by walk_at "sm"⟩
      · rintro σ H8 ⟨z1, z2, z3, z4, z5, z6, rfl, e8⟩
        have v1 : les 1 2 = 3 := les_of (j := 1) (by decide) (by decide) (by decide) (by decide) (by decide)
        have v2 : les 2 3 = 4 := les_of (j := 1) (by decide) (by decide) (by decide) (by decide) (by decide)
        have v3 : les 1 3 = 4 := les_of (j := 1) (by decide) (by decide) (by decide) (by decide) (by decide)
        have v4 : plc 1 4 = 3 := plc_eq (by decide) (by decide) (by decide) (.inl v3)
        walk_at "rd"
        intro p4 H9 np4 e9 hp4
        walk_at "rd"
        intro p5 H10 np5 e10 hp5
        walk_at "rd"
        intro p6 H11 np6 e11 hp6
        walk_at "rd"
        intro p7 H12 np7 e12 hp7
        walk_at "rd"
        intro p8 H13 np8 e13 hp8
        walk_at "rd"
        intro p9 H14 np9 e14 hp9
        walk_at "rd"
        rw [les0, oth0]
        exact q _

end

theorem all_mk {l : PySem.W.OpenLaw} {w : World} {K : PySem.W.Frag} {h : Heap} {mg : Str → Option Value} {fa f_is_whole f_check_bound f_root_of f_lesser_of f_pair_of f_pair_by f_place_of f_pair_with f__law_cell_at f__law_draw f__law_number f__law_root f__law_pair f__law_bound f__law_whole f__law_is_pair f__law_right f__law_first_right f_law : Addr} (X : K.In h) (G : h.Ns mainGlobals mg) (hfa : mg "law" = some (.ref fa))
    {od_is_whole an_is_whole od_check_bound an_check_bound od_root_of an_root_of od_lesser_of an_lesser_of od_pair_of an_pair_of od_pair_by an_pair_by od_place_of an_place_of od_pair_with an_pair_with od__law_cell_at an__law_cell_at od__law_draw an__law_draw od__law_number an__law_number od__law_root an__law_root od__law_pair an__law_pair od__law_bound an__law_bound od__law_whole an__law_whole od__law_is_pair an__law_is_pair od__law_right an__law_right od__law_first_right an__law_first_right od_law an_law : Option Addr}
    {sl_is_whole sl_check_bound sl_root_of sl_lesser_of sl_pair_of sl_pair_by sl_place_of sl_pair_with sl__law_cell_at sl__law_draw sl__law_number sl__law_root sl__law_pair sl__law_bound sl__law_whole sl__law_is_pair sl__law_right sl__law_first_right sl_law : Array (Option Value)}
    {oc_is_whole kV_is_whole dc_is_whole pm_is_whole cd_is_whole ct_is_whole oc_check_bound kV_check_bound dc_check_bound pm_check_bound cd_check_bound ct_check_bound oc_root_of kV_root_of dc_root_of pm_root_of cd_root_of ct_root_of oc_lesser_of kV_lesser_of dc_lesser_of pm_lesser_of cd_lesser_of ct_lesser_of oc_pair_of kV_pair_of dc_pair_of pm_pair_of cd_pair_of ct_pair_of oc_pair_by kV_pair_by dc_pair_by pm_pair_by cd_pair_by ct_pair_by oc_place_of kV_place_of dc_place_of pm_place_of cd_place_of ct_place_of oc_pair_with kV_pair_with dc_pair_with pm_pair_with cd_pair_with ct_pair_with oc__law_cell_at kV__law_cell_at dc__law_cell_at pm__law_cell_at cd__law_cell_at ct__law_cell_at oc__law_draw kV__law_draw dc__law_draw pm__law_draw cd__law_draw ct__law_draw oc__law_number kV__law_number dc__law_number pm__law_number cd__law_number ct__law_number oc__law_root kV__law_root dc__law_root pm__law_root cd__law_root ct__law_root oc__law_pair kV__law_pair dc__law_pair pm__law_pair cd__law_pair ct__law_pair oc__law_bound kV__law_bound dc__law_bound pm__law_bound cd__law_bound ct__law_bound oc__law_whole kV__law_whole dc__law_whole pm__law_whole cd__law_whole ct__law_whole oc__law_is_pair kV__law_is_pair dc__law_is_pair pm__law_is_pair cd__law_is_pair ct__law_is_pair oc__law_right kV__law_right dc__law_right pm__law_right cd__law_right ct__law_right oc__law_first_right kV__law_first_right dc__law_first_right pm__law_first_right cd__law_first_right ct__law_first_right oc_law kV_law dc_law pm_law cd_law ct_law : Value}
    (a_is_whole : PySem.W.nsIn K mainGlobals "is_whole" = some (some (.ref f_is_whole)))
    (l_is_whole : K.lookup f_is_whole = some ⟨oc_is_whole, od_is_whole, .func (PySem.W.fnOf "is_whole" "is_whole" (defArgs s_is_whole) (defBody s_is_whole) (defScope s_is_whole) .none kV_is_whole dc_is_whole pm_is_whole an_is_whole cd_is_whole ct_is_whole), sl_is_whole⟩)
    (c_is_whole : PySem.W.codeIn K cd_is_whole "is_whole" = true)
    (k_is_whole : PySem.W.keepIn K (.ref f_is_whole) = true)
    (a_check_bound : PySem.W.nsIn K mainGlobals "check_bound" = some (some (.ref f_check_bound)))
    (l_check_bound : K.lookup f_check_bound = some ⟨oc_check_bound, od_check_bound, .func (PySem.W.fnOf "check_bound" "check_bound" (defArgs s_check_bound) (defBody s_check_bound) (defScope s_check_bound) .none kV_check_bound dc_check_bound pm_check_bound an_check_bound cd_check_bound ct_check_bound), sl_check_bound⟩)
    (c_check_bound : PySem.W.codeIn K cd_check_bound "check_bound" = true)
    (k_check_bound : PySem.W.keepIn K (.ref f_check_bound) = true)
    (a_root_of : PySem.W.nsIn K mainGlobals "root_of" = some (some (.ref f_root_of)))
    (l_root_of : K.lookup f_root_of = some ⟨oc_root_of, od_root_of, .func (PySem.W.fnOf "root_of" "root_of" (defArgs s_root_of) (defBody s_root_of) (defScope s_root_of) .none kV_root_of dc_root_of pm_root_of an_root_of cd_root_of ct_root_of), sl_root_of⟩)
    (c_root_of : PySem.W.codeIn K cd_root_of "root_of" = true)
    (k_root_of : PySem.W.keepIn K (.ref f_root_of) = true)
    (a_lesser_of : PySem.W.nsIn K mainGlobals "lesser_of" = some (some (.ref f_lesser_of)))
    (l_lesser_of : K.lookup f_lesser_of = some ⟨oc_lesser_of, od_lesser_of, .func (PySem.W.fnOf "lesser_of" "lesser_of" (defArgs s_lesser_of) (defBody s_lesser_of) (defScope s_lesser_of) .none kV_lesser_of dc_lesser_of pm_lesser_of an_lesser_of cd_lesser_of ct_lesser_of), sl_lesser_of⟩)
    (c_lesser_of : PySem.W.codeIn K cd_lesser_of "lesser_of" = true)
    (k_lesser_of : PySem.W.keepIn K (.ref f_lesser_of) = true)
    (a_pair_of : PySem.W.nsIn K mainGlobals "pair_of" = some (some (.ref f_pair_of)))
    (l_pair_of : K.lookup f_pair_of = some ⟨oc_pair_of, od_pair_of, .func (PySem.W.fnOf "pair_of" "pair_of" (defArgs s_pair_of) (defBody s_pair_of) (defScope s_pair_of) .none kV_pair_of dc_pair_of pm_pair_of an_pair_of cd_pair_of ct_pair_of), sl_pair_of⟩)
    (c_pair_of : PySem.W.codeIn K cd_pair_of "pair_of" = true)
    (k_pair_of : PySem.W.keepIn K (.ref f_pair_of) = true)
    (a_pair_by : PySem.W.nsIn K mainGlobals "pair_by" = some (some (.ref f_pair_by)))
    (l_pair_by : K.lookup f_pair_by = some ⟨oc_pair_by, od_pair_by, .func (PySem.W.fnOf "pair_by" "pair_by" (defArgs s_pair_by) (defBody s_pair_by) (defScope s_pair_by) .none kV_pair_by dc_pair_by pm_pair_by an_pair_by cd_pair_by ct_pair_by), sl_pair_by⟩)
    (c_pair_by : PySem.W.codeIn K cd_pair_by "pair_by" = true)
    (k_pair_by : PySem.W.keepIn K (.ref f_pair_by) = true)
    (a_place_of : PySem.W.nsIn K mainGlobals "place_of" = some (some (.ref f_place_of)))
    (l_place_of : K.lookup f_place_of = some ⟨oc_place_of, od_place_of, .func (PySem.W.fnOf "place_of" "place_of" (defArgs s_place_of) (defBody s_place_of) (defScope s_place_of) .none kV_place_of dc_place_of pm_place_of an_place_of cd_place_of ct_place_of), sl_place_of⟩)
    (c_place_of : PySem.W.codeIn K cd_place_of "place_of" = true)
    (k_place_of : PySem.W.keepIn K (.ref f_place_of) = true)
    (a_pair_with : PySem.W.nsIn K mainGlobals "pair_with" = some (some (.ref f_pair_with)))
    (l_pair_with : K.lookup f_pair_with = some ⟨oc_pair_with, od_pair_with, .func (PySem.W.fnOf "pair_with" "pair_with" (defArgs s_pair_with) (defBody s_pair_with) (defScope s_pair_with) .none kV_pair_with dc_pair_with pm_pair_with an_pair_with cd_pair_with ct_pair_with), sl_pair_with⟩)
    (c_pair_with : PySem.W.codeIn K cd_pair_with "pair_with" = true)
    (k_pair_with : PySem.W.keepIn K (.ref f_pair_with) = true)
    (a__law_cell_at : PySem.W.nsIn K mainGlobals "_law_cell_at" = some (some (.ref f__law_cell_at)))
    (l__law_cell_at : K.lookup f__law_cell_at = some ⟨oc__law_cell_at, od__law_cell_at, .func (PySem.W.fnOf "_law_cell_at" "_law_cell_at" (defArgs s__law_cell_at) (defBody s__law_cell_at) (defScope s__law_cell_at) .none kV__law_cell_at dc__law_cell_at pm__law_cell_at an__law_cell_at cd__law_cell_at ct__law_cell_at), sl__law_cell_at⟩)
    (c__law_cell_at : PySem.W.codeIn K cd__law_cell_at "_law_cell_at" = true)
    (k__law_cell_at : PySem.W.keepIn K (.ref f__law_cell_at) = true)
    (a__law_draw : PySem.W.nsIn K mainGlobals "_law_draw" = some (some (.ref f__law_draw)))
    (l__law_draw : K.lookup f__law_draw = some ⟨oc__law_draw, od__law_draw, .func (PySem.W.fnOf "_law_draw" "_law_draw" (defArgs s__law_draw) (defBody s__law_draw) (defScope s__law_draw) .none kV__law_draw dc__law_draw pm__law_draw an__law_draw cd__law_draw ct__law_draw), sl__law_draw⟩)
    (c__law_draw : PySem.W.codeIn K cd__law_draw "_law_draw" = true)
    (k__law_draw : PySem.W.keepIn K (.ref f__law_draw) = true)
    (a__law_number : PySem.W.nsIn K mainGlobals "_law_number" = some (some (.ref f__law_number)))
    (l__law_number : K.lookup f__law_number = some ⟨oc__law_number, od__law_number, .func (PySem.W.fnOf "_law_number" "_law_number" (defArgs s__law_number) (defBody s__law_number) (defScope s__law_number) .none kV__law_number dc__law_number pm__law_number an__law_number cd__law_number ct__law_number), sl__law_number⟩)
    (c__law_number : PySem.W.codeIn K cd__law_number "_law_number" = true)
    (k__law_number : PySem.W.keepIn K (.ref f__law_number) = true)
    (a__law_root : PySem.W.nsIn K mainGlobals "_law_root" = some (some (.ref f__law_root)))
    (l__law_root : K.lookup f__law_root = some ⟨oc__law_root, od__law_root, .func (PySem.W.fnOf "_law_root" "_law_root" (defArgs s__law_root) (defBody s__law_root) (defScope s__law_root) .none kV__law_root dc__law_root pm__law_root an__law_root cd__law_root ct__law_root), sl__law_root⟩)
    (c__law_root : PySem.W.codeIn K cd__law_root "_law_root" = true)
    (k__law_root : PySem.W.keepIn K (.ref f__law_root) = true)
    (a__law_pair : PySem.W.nsIn K mainGlobals "_law_pair" = some (some (.ref f__law_pair)))
    (l__law_pair : K.lookup f__law_pair = some ⟨oc__law_pair, od__law_pair, .func (PySem.W.fnOf "_law_pair" "_law_pair" (defArgs s__law_pair) (defBody s__law_pair) (defScope s__law_pair) .none kV__law_pair dc__law_pair pm__law_pair an__law_pair cd__law_pair ct__law_pair), sl__law_pair⟩)
    (c__law_pair : PySem.W.codeIn K cd__law_pair "_law_pair" = true)
    (k__law_pair : PySem.W.keepIn K (.ref f__law_pair) = true)
    (a__law_bound : PySem.W.nsIn K mainGlobals "_law_bound" = some (some (.ref f__law_bound)))
    (l__law_bound : K.lookup f__law_bound = some ⟨oc__law_bound, od__law_bound, .func (PySem.W.fnOf "_law_bound" "_law_bound" (defArgs s__law_bound) (defBody s__law_bound) (defScope s__law_bound) .none kV__law_bound dc__law_bound pm__law_bound an__law_bound cd__law_bound ct__law_bound), sl__law_bound⟩)
    (c__law_bound : PySem.W.codeIn K cd__law_bound "_law_bound" = true)
    (k__law_bound : PySem.W.keepIn K (.ref f__law_bound) = true)
    (a__law_whole : PySem.W.nsIn K mainGlobals "_law_whole" = some (some (.ref f__law_whole)))
    (l__law_whole : K.lookup f__law_whole = some ⟨oc__law_whole, od__law_whole, .func (PySem.W.fnOf "_law_whole" "_law_whole" (defArgs s__law_whole) (defBody s__law_whole) (defScope s__law_whole) .none kV__law_whole dc__law_whole pm__law_whole an__law_whole cd__law_whole ct__law_whole), sl__law_whole⟩)
    (c__law_whole : PySem.W.codeIn K cd__law_whole "_law_whole" = true)
    (k__law_whole : PySem.W.keepIn K (.ref f__law_whole) = true)
    (a__law_is_pair : PySem.W.nsIn K mainGlobals "_law_is_pair" = some (some (.ref f__law_is_pair)))
    (l__law_is_pair : K.lookup f__law_is_pair = some ⟨oc__law_is_pair, od__law_is_pair, .func (PySem.W.fnOf "_law_is_pair" "_law_is_pair" (defArgs s__law_is_pair) (defBody s__law_is_pair) (defScope s__law_is_pair) .none kV__law_is_pair dc__law_is_pair pm__law_is_pair an__law_is_pair cd__law_is_pair ct__law_is_pair), sl__law_is_pair⟩)
    (c__law_is_pair : PySem.W.codeIn K cd__law_is_pair "_law_is_pair" = true)
    (k__law_is_pair : PySem.W.keepIn K (.ref f__law_is_pair) = true)
    (a__law_right : PySem.W.nsIn K mainGlobals "_law_right" = some (some (.ref f__law_right)))
    (l__law_right : K.lookup f__law_right = some ⟨oc__law_right, od__law_right, .func (PySem.W.fnOf "_law_right" "_law_right" (defArgs s__law_right) (defBody s__law_right) (defScope s__law_right) .none kV__law_right dc__law_right pm__law_right an__law_right cd__law_right ct__law_right), sl__law_right⟩)
    (c__law_right : PySem.W.codeIn K cd__law_right "_law_right" = true)
    (k__law_right : PySem.W.keepIn K (.ref f__law_right) = true)
    (a__law_first_right : PySem.W.nsIn K mainGlobals "_law_first_right" = some (some (.ref f__law_first_right)))
    (l__law_first_right : K.lookup f__law_first_right = some ⟨oc__law_first_right, od__law_first_right, .func (PySem.W.fnOf "_law_first_right" "_law_first_right" (defArgs s__law_first_right) (defBody s__law_first_right) (defScope s__law_first_right) .none kV__law_first_right dc__law_first_right pm__law_first_right an__law_first_right cd__law_first_right ct__law_first_right), sl__law_first_right⟩)
    (c__law_first_right : PySem.W.codeIn K cd__law_first_right "_law_first_right" = true)
    (k__law_first_right : PySem.W.keepIn K (.ref f__law_first_right) = true)
    (a_law : PySem.W.nsIn K mainGlobals "law" = some (some (.ref f_law)))
    (l_law : K.lookup f_law = some ⟨oc_law, od_law, .func (PySem.W.fnOf "law" "law" (defArgs s_law) (defBody s_law) (defScope s_law) .none kV_law dc_law pm_law an_law cd_law ct_law), sl_law⟩)
    (c_law : PySem.W.codeIn K cd_law "law" = true)
    (k_law : PySem.W.keepIn K (.ref f_law) = true)
    (z_isinstance : PySem.W.nsIn K mainGlobals "isinstance" = some none)
    (z_len : PySem.W.nsIn K mainGlobals "len" = some none)
    (z_max : PySem.W.nsIn K mainGlobals "max" = some none)
    (z_int : PySem.W.nsIn K mainGlobals "int" = some none)
    (z_bool : PySem.W.nsIn K mainGlobals "bool" = some none)
    (z_tuple : PySem.W.nsIn K mainGlobals "tuple" = some none)
    (z_range : PySem.W.nsIn K mainGlobals "range" = some none)
    : ∃ fd : FuncData, (∀ (s : Shared) (v : Value), BindsTo s fd ⟨[v], []⟩ [("_law_script", v)]) ∧ ∀ base : Heap, K.In base → base.Ns mainGlobals mg → FnOk l.prog w K mg base CX0 6 fa fd ["_law_script"] (sp_law K) := by
  have e := hfa.symm.trans (PySem.W.mg_of X G a_law)
  cases e
  have F_is_whole := fun_mk (st := s_is_whole) l_is_whole c_is_whole k_is_whole
  have b_is_whole := F_is_whole.binds (ps := ["thing"]) fun _ _ _ _ _ _ us hl => match us, hl with | [_], _ => rfl
  have F_check_bound := fun_mk (st := s_check_bound) l_check_bound c_check_bound k_check_bound
  have b_check_bound := F_check_bound.binds (ps := ["bound"]) fun _ _ _ _ _ _ us hl => match us, hl with | [_], _ => rfl
  have F_root_of := fun_mk (st := s_root_of) l_root_of c_root_of k_root_of
  have b_root_of := F_root_of.binds (ps := ["number"]) fun _ _ _ _ _ _ us hl => match us, hl with | [_], _ => rfl
  have F_lesser_of := fun_mk (st := s_lesser_of) l_lesser_of c_lesser_of k_lesser_of
  have b_lesser_of := F_lesser_of.binds (ps := ["bound", "number"]) fun _ _ _ _ _ _ us hl => match us, hl with | [_, _], _ => rfl
  have F_pair_of := fun_mk (st := s_pair_of) l_pair_of c_pair_of k_pair_of
  have b_pair_of := F_pair_of.binds (ps := ["bound", "number"]) fun _ _ _ _ _ _ us hl => match us, hl with | [_, _], _ => rfl
  have F_pair_by := fun_mk (st := s_pair_by) l_pair_by c_pair_by k_pair_by
  have b_pair_by := F_pair_by.binds (ps := ["bound", "number"]) fun _ _ _ _ _ _ us hl => match us, hl with | [_, _], _ => rfl
  have F_place_of := fun_mk (st := s_place_of) l_place_of c_place_of k_place_of
  have b_place_of := F_place_of.binds (ps := ["bound", "number"]) fun _ _ _ _ _ _ us hl => match us, hl with | [_, _], _ => rfl
  have F_pair_with := fun_mk (st := s_pair_with) l_pair_with c_pair_with k_pair_with
  have b_pair_with := F_pair_with.binds (ps := ["bound", "number"]) fun _ _ _ _ _ _ us hl => match us, hl with | [_, _], _ => rfl
  have F__law_cell_at := fun_mk (st := s__law_cell_at) l__law_cell_at c__law_cell_at k__law_cell_at
  have b__law_cell_at := F__law_cell_at.binds (ps := ["_law_script", "_law_k"]) fun _ _ _ _ _ _ us hl => match us, hl with | [_, _], _ => rfl
  have F__law_draw := fun_mk (st := s__law_draw) l__law_draw c__law_draw k__law_draw
  have b__law_draw := F__law_draw.binds (ps := ["_law_cell", "_law_k", "_law_many"]) fun _ _ _ _ _ _ us hl => match us, hl with | [_, _, _], _ => rfl
  have F__law_number := fun_mk (st := s__law_number) l__law_number c__law_number k__law_number
  have b__law_number := F__law_number.binds (ps := ["_law_cell", "_law_k", "_law_limit"]) fun _ _ _ _ _ _ us hl => match us, hl with | [_, _, _], _ => rfl
  have F__law_root := fun_mk (st := s__law_root) l__law_root c__law_root k__law_root
  have b__law_root := F__law_root.binds (ps := ["_law_number_here"]) fun _ _ _ _ _ _ us hl => match us, hl with | [_], _ => rfl
  have F__law_pair := fun_mk (st := s__law_pair) l__law_pair c__law_pair k__law_pair
  have b__law_pair := F__law_pair.binds (ps := ["_law_by", "_law_at"]) fun _ _ _ _ _ _ us hl => match us, hl with | [_, _], _ => rfl
  have F__law_bound := fun_mk (st := s__law_bound) l__law_bound c__law_bound k__law_bound
  have b__law_bound := F__law_bound.binds (ps := ["_law_script", "_law_k"]) fun _ _ _ _ _ _ us hl => match us, hl with | [_, _], _ => rfl
  have F__law_whole := fun_mk (st := s__law_whole) l__law_whole c__law_whole k__law_whole
  have b__law_whole := F__law_whole.binds (ps := ["_law_number_here"]) fun _ _ _ _ _ _ us hl => match us, hl with | [_], _ => rfl
  have F__law_is_pair := fun_mk (st := s__law_is_pair) l__law_is_pair c__law_is_pair k__law_is_pair
  have b__law_is_pair := F__law_is_pair.binds (ps := ["_law_found"]) fun _ _ _ _ _ _ us hl => match us, hl with | [_], _ => rfl
  have F__law_right := fun_mk (st := s__law_right) l__law_right c__law_right k__law_right
  have b__law_right := F__law_right.binds (ps := ["_law_bound_here", "_law_number_here"]) fun _ _ _ _ _ _ us hl => match us, hl with | [_, _], _ => rfl
  have F__law_first_right := fun_mk (st := s__law_first_right) l__law_first_right c__law_first_right k__law_first_right
  have b__law_first_right := F__law_first_right.binds (ps := ["_law_bound_here"]) fun _ _ _ _ _ _ us hl => match us, hl with | [_], _ => rfl
  have F_law := fun_mk (st := s_law) l_law c_law k_law
  have b_law := F_law.binds (ps := ["_law_script"]) fun _ _ _ _ _ _ us hl => match us, hl with | [_], _ => rfl
  exact ⟨PySem.W.fnOf "law" "law" (defArgs s_law) (defBody s_law) (defScope s_law) .none kV_law dc_law pm_law an_law cd_law ct_law, fun s v => .of_eq rfl, fun base _ _ => ok_law { g_is_whole := PySem.W.mg_of X G a_is_whole, a_is_whole := f_is_whole, d_is_whole := _, F_is_whole := F_is_whole, b_is_whole := b_is_whole, g_check_bound := PySem.W.mg_of X G a_check_bound, a_check_bound := f_check_bound, d_check_bound := _, F_check_bound := F_check_bound, b_check_bound := b_check_bound, g_root_of := PySem.W.mg_of X G a_root_of, a_root_of := f_root_of, d_root_of := _, F_root_of := F_root_of, b_root_of := b_root_of, g_lesser_of := PySem.W.mg_of X G a_lesser_of, a_lesser_of := f_lesser_of, d_lesser_of := _, F_lesser_of := F_lesser_of, b_lesser_of := b_lesser_of, g_pair_of := PySem.W.mg_of X G a_pair_of, a_pair_of := f_pair_of, d_pair_of := _, F_pair_of := F_pair_of, b_pair_of := b_pair_of, g_pair_by := PySem.W.mg_of X G a_pair_by, a_pair_by := f_pair_by, d_pair_by := _, F_pair_by := F_pair_by, b_pair_by := b_pair_by, g_place_of := PySem.W.mg_of X G a_place_of, a_place_of := f_place_of, d_place_of := _, F_place_of := F_place_of, b_place_of := b_place_of, g_pair_with := PySem.W.mg_of X G a_pair_with, a_pair_with := f_pair_with, d_pair_with := _, F_pair_with := F_pair_with, b_pair_with := b_pair_with, g__law_cell_at := PySem.W.mg_of X G a__law_cell_at, a__law_cell_at := f__law_cell_at, d__law_cell_at := _, F__law_cell_at := F__law_cell_at, b__law_cell_at := b__law_cell_at, g__law_draw := PySem.W.mg_of X G a__law_draw, a__law_draw := f__law_draw, d__law_draw := _, F__law_draw := F__law_draw, b__law_draw := b__law_draw, g__law_number := PySem.W.mg_of X G a__law_number, a__law_number := f__law_number, d__law_number := _, F__law_number := F__law_number, b__law_number := b__law_number, g__law_root := PySem.W.mg_of X G a__law_root, a__law_root := f__law_root, d__law_root := _, F__law_root := F__law_root, b__law_root := b__law_root, g__law_pair := PySem.W.mg_of X G a__law_pair, a__law_pair := f__law_pair, d__law_pair := _, F__law_pair := F__law_pair, b__law_pair := b__law_pair, g__law_bound := PySem.W.mg_of X G a__law_bound, a__law_bound := f__law_bound, d__law_bound := _, F__law_bound := F__law_bound, b__law_bound := b__law_bound, g__law_whole := PySem.W.mg_of X G a__law_whole, a__law_whole := f__law_whole, d__law_whole := _, F__law_whole := F__law_whole, b__law_whole := b__law_whole, g__law_is_pair := PySem.W.mg_of X G a__law_is_pair, a__law_is_pair := f__law_is_pair, d__law_is_pair := _, F__law_is_pair := F__law_is_pair, b__law_is_pair := b__law_is_pair, g__law_right := PySem.W.mg_of X G a__law_right, a__law_right := f__law_right, d__law_right := _, F__law_right := F__law_right, b__law_right := b__law_right, g__law_first_right := PySem.W.mg_of X G a__law_first_right, a__law_first_right := f__law_first_right, d__law_first_right := _, F__law_first_right := F__law_first_right, b__law_first_right := b__law_first_right, g_law := PySem.W.mg_of X G a_law, a_law := fa, d_law := _, F_law := F_law, b_law := b_law, n_isinstance := PySem.W.mg_none_of X G z_isinstance, n_len := PySem.W.mg_none_of X G z_len, n_max := PySem.W.mg_none_of X G z_max, n_int := PySem.W.mg_none_of X G z_int, n_bool := PySem.W.mg_none_of X G z_bool, n_tuple := PySem.W.mg_none_of X G z_tuple, n_range := PySem.W.mg_none_of X G z_range }⟩
end TW
open PySem PySem.W PyProof.Rows
set_option maxRecDepth 100000 in
set_option maxHeartbeats 0 in
theorem PySem.Challenge.cw_twoheaps_k02_whole_pairs_holds : PySem.Challenge.rw_twoheaps_k02_whole_pairs.Holds := by
  w_on; o_law; k_head; (case hw => w_witness2)
  k_fill
  refine L2.walk_ofB (l := PySem.Challenge.rw_twoheaps_k02_whole_pairs) (n := 63) (k := 6) (x := "_law_script") (CX := fun _ => L2.CX0) (sp := fun w => TW.sp_law _) rfl (by decide) rfl ⟨rfl, by decide, by decide⟩ (fun w h Y => PySem.W.kIn_of Y) ?F (fun _ _ a ns hl hb _ hS => ⟨a, ns, rfl, hS, hl, fun n hn => TH.bd_mono (TH.bd_bits (hb n hn)) (by decide), fun _ => rfl⟩) (fun _ _ _ _ _ h => h)
  case F =>
    intro w mg fa h KX G hmg
    refine' TW.all_mk KX G hmg ?a_is_whole ?l_is_whole ?c_is_whole ?k_is_whole ?a_check_bound ?l_check_bound ?c_check_bound ?k_check_bound ?a_root_of ?l_root_of ?c_root_of ?k_root_of ?a_lesser_of ?l_lesser_of ?c_lesser_of ?k_lesser_of ?a_pair_of ?l_pair_of ?c_pair_of ?k_pair_of ?a_pair_by ?l_pair_by ?c_pair_by ?k_pair_by ?a_place_of ?l_place_of ?c_place_of ?k_place_of ?a_pair_with ?l_pair_with ?c_pair_with ?k_pair_with ?a__law_cell_at ?l__law_cell_at ?c__law_cell_at ?k__law_cell_at ?a__law_draw ?l__law_draw ?c__law_draw ?k__law_draw ?a__law_number ?l__law_number ?c__law_number ?k__law_number ?a__law_root ?l__law_root ?c__law_root ?k__law_root ?a__law_pair ?l__law_pair ?c__law_pair ?k__law_pair ?a__law_bound ?l__law_bound ?c__law_bound ?k__law_bound ?a__law_whole ?l__law_whole ?c__law_whole ?k__law_whole ?a__law_is_pair ?l__law_is_pair ?c__law_is_pair ?k__law_is_pair ?a__law_right ?l__law_right ?c__law_right ?k__law_right ?a__law_first_right ?l__law_first_right ?c__law_first_right ?k__law_first_right ?a_law ?l_law ?c_law ?k_law ?z_isinstance ?z_len ?z_max ?z_int ?z_bool ?z_tuple ?z_range
    (case a_is_whole => k_is); (case l_is_whole => k_is); (case c_is_whole => k_is); (case k_is_whole => k_is); (case a_check_bound => k_is); (case l_check_bound => k_is)
    (case c_check_bound => k_is); (case k_check_bound => k_is); (case a_root_of => k_is); (case l_root_of => k_is); (case c_root_of => k_is); (case k_root_of => k_is)
    (case a_lesser_of => k_is); (case l_lesser_of => k_is); (case c_lesser_of => k_is); (case k_lesser_of => k_is); (case a_pair_of => k_is); (case l_pair_of => k_is)
    (case c_pair_of => k_is); (case k_pair_of => k_is); (case a_pair_by => k_is); (case l_pair_by => k_is); (case c_pair_by => k_is); (case k_pair_by => k_is)
    (case a_place_of => k_is); (case l_place_of => k_is); (case c_place_of => k_is); (case k_place_of => k_is); (case a_pair_with => k_is); (case l_pair_with => k_is)
    (case c_pair_with => k_is); (case k_pair_with => k_is); (case a__law_cell_at => k_is); (case l__law_cell_at => k_is); (case c__law_cell_at => k_is); (case k__law_cell_at => k_is)
    (case a__law_draw => k_is); (case l__law_draw => k_is); (case c__law_draw => k_is); (case k__law_draw => k_is); (case a__law_number => k_is); (case l__law_number => k_is)
    (case c__law_number => k_is); (case k__law_number => k_is); (case a__law_root => k_is); (case l__law_root => k_is); (case c__law_root => k_is); (case k__law_root => k_is)
    (case a__law_pair => k_is); (case l__law_pair => k_is); (case c__law_pair => k_is); (case k__law_pair => k_is); (case a__law_bound => k_is); (case l__law_bound => k_is)
    (case c__law_bound => k_is); (case k__law_bound => k_is); (case a__law_whole => k_is); (case l__law_whole => k_is); (case c__law_whole => k_is); (case k__law_whole => k_is)
    (case a__law_is_pair => k_is); (case l__law_is_pair => k_is); (case c__law_is_pair => k_is); (case k__law_is_pair => k_is); (case a__law_right => k_is); (case l__law_right => k_is)
    (case c__law_right => k_is); (case k__law_right => k_is); (case a__law_first_right => k_is); (case l__law_first_right => k_is); (case c__law_first_right => k_is); (case k__law_first_right => k_is)
    (case a_law => k_is); (case l_law => k_is); (case c_law => k_is); (case k_law => k_is); (case z_isinstance => k_is); (case z_len => k_is)
    (case z_max => k_is); (case z_int => k_is); (case z_bool => k_is); (case z_tuple => k_is); (case z_range => k_is)
