import PyProof.Rows.All
import Wide.All
import OpenK.AllK
import Wide.FinOn
import HandS.ForMost
import HandS.ForExc
import HandS.Style
import HandS.WideBits
import HandS.IsInst
import HandS.Codes
import HandS.HotCalls
import HandS.ExcIs
import KE.DatumOrd
import HandS.EndBits
import PySem.Challenge.RW_twoheaps_k05_refused

set_option Elab.async false
set_option linter.all false
set_option maxRecDepth 100000
set_option maxHeartbeats 1000000
set_option exponentiation.threshold 10000

/-! Two heaps: the mathematics, plain Lean, no program in sight. -/
namespace TH

/-! ### the root -/
def isqGo (n : Nat) : Nat → Nat
  | 0 => 0
  | k + 1 => if (k + 1) * (k + 1) ≤ n then k + 1 else isqGo n k
def isq (n : Nat) : Nat := isqGo n n
theorem isqGo_sq (n k : Nat) : isqGo n k * isqGo n k ≤ n := by
  induction k with
  | zero => simp [isqGo]
  | succ k ih => unfold isqGo; split <;> assumption
theorem isqGo_lt (n k : Nat) (h : n < (k + 1) * (k + 1)) : n < (isqGo n k + 1) * (isqGo n k + 1) := by
  induction k with
  | zero => simpa [isqGo] using h
  | succ k ih =>
    unfold isqGo
    split
    · exact h
    · exact ih (by omega)
theorem isq_sq (n : Nat) : isq n * isq n ≤ n := isqGo_sq n n
theorem isq_lt (n : Nat) : n < (isq n + 1) * (isq n + 1) := isqGo_lt n n (by
  have : (n + 1) * (n + 1) = n * n + n + n + 1 := by grind
  omega)
/-- the root of a whole number -/
def rt (n : Int) : Int := (isq n.toNat : Int)
theorem rt_nn (n : Int) : 0 ≤ rt n := Int.natCast_nonneg _
theorem rt_sq {n : Int} (h : 0 ≤ n) : rt n * rt n ≤ n := by
  have := isq_sq n.toNat
  have e : ((n.toNat : Nat) : Int) = n := Int.toNat_of_nonneg h
  unfold rt
  rw [← Int.natCast_mul]
  omega
theorem rt_lt {n : Int} (h : 0 ≤ n) : n < (rt n + 1) * (rt n + 1) := by
  have := isq_lt n.toNat
  have e : ((n.toNat : Nat) : Int) = n := Int.toNat_of_nonneg h
  unfold rt
  have e2 : ((isq n.toNat : Int) + 1) * ((isq n.toNat : Int) + 1) = (((isq n.toNat + 1) * (isq n.toNat + 1) : Nat) : Int) := by
    simp only [Int.natCast_mul, Int.natCast_add]; rfl
  rw [e2]
  omega
theorem sq_mono {a b : Int} (h0 : 0 ≤ a) (h : a ≤ b) : a * a ≤ b * b := by
  have h1 : a * a ≤ a * b := Int.mul_le_mul_of_nonneg_left h h0
  have h2 : a * b ≤ b * b := Int.mul_le_mul_of_nonneg_right h (by omega)
  omega
theorem sq_lt_imp {a b : Int} (hb : 0 ≤ b) (h : a * a < b * b) : a < b := by
  have := fun z : b ≤ a => sq_mono hb z
  omega
theorem rt_uniq {n r : Int} (hn : 0 ≤ n) (hr : 0 ≤ r) (h1 : r * r ≤ n) (h2 : n < (r + 1) * (r + 1)) : rt n = r := by
  have a := rt_sq hn
  have b := rt_lt hn
  have c := rt_nn n
  have d := sq_lt_imp (a := rt n) (b := r + 1) (by omega) (by omega)
  have e := sq_lt_imp (a := r) (b := rt n + 1) (by omega) (by omega)
  omega
theorem rt_le {n r : Int} (hn : 0 ≤ n) (hr : 0 ≤ r) (h : n < (r + 1) * (r + 1)) : rt n ≤ r := by
  have a := rt_sq hn
  have d := sq_lt_imp (a := rt n) (b := r + 1) (by omega) (by omega)
  omega
theorem le_rt {n r : Int} (hn : 0 ≤ n) (h : r * r ≤ n) : r ≤ rt n := by
  have b := rt_lt hn
  have c := rt_nn n
  have e := sq_lt_imp (a := r) (b := rt n + 1) (by omega) (by omega)
  omega
/-- a turn of the root's loop stays above -/
theorem newton_ge {n x : Int} (hn : 0 ≤ n) (hx : 0 < x) : rt n ≤ (x + n / x) / 2 := by
  have a := rt_sq hn
  have c := rt_nn n
  have k : 2 * rt n - x ≤ n / x := by
    rw [Int.le_ediv_iff_mul_le hx]
    have q : 0 ≤ (rt n - x) * (rt n - x) := by
      rcases Int.le_total (rt n) x with h | h
      · have := Int.mul_nonneg (show 0 ≤ x - rt n by omega) (show 0 ≤ x - rt n by omega)
        grind
      · exact Int.mul_nonneg (by omega) (by omega)
    grind
  omega
theorem newton_lt {n x : Int} (hx : 0 < x) (h : n < x * x) : (x + n / x) / 2 < x := by
  have : n / x < x := Int.ediv_lt_of_lt_mul hx h
  omega
theorem newton_nn {n x : Int} (hn : 0 ≤ n) (hx : 0 < x) : 0 ≤ (x + n / x) / 2 := by
  have := Int.ediv_nonneg hn (Int.le_of_lt hx)
  omega

theorem newton {n x : Int} (hn : 0 ≤ n) (h0 : 0 ≤ x) (hx : rt n ≤ x) (h : n < x * x) : 0 < x ∧ 0 ≤ (x + n / x) / 2 ∧ rt n ≤ (x + n / x) / 2 ∧ (x + n / x) / 2 < x := by
  have p : 0 < x := by
    rcases Int.lt_or_eq_of_le h0 with z | z
    · exact z
    · subst z
      simp at h
      omega
  exact ⟨p, newton_nn hn p, newton_ge hn p, newton_lt p h⟩
theorem newton_end {n x : Int} (hn : 0 ≤ n) (hx : rt n ≤ x) (h : ¬ n < x * x) : x = rt n := by
  have := le_rt hn (show x * x ≤ n by omega)
  omega
theorem pow_cast (k : Nat) : ((2 ^ k : Nat) : Int) = (2 : Int) ^ k := by rw [Int.natCast_pow]; rfl
theorem newton_start {n : Int} {b : Nat} (hn : 0 ≤ n) (h : n.natAbs < 2 ^ b) : 0 ≤ (1 : Int) * 2 ^ (((b : Int) + 1) / 2).toNat ∧ rt n ≤ 1 * 2 ^ (((b : Int) + 1) / 2).toNat := by
  have e : (((b : Int) + 1) / 2).toNat = (b + 1) / 2 := by omega
  rw [e, Int.one_mul, ← pow_cast]
  refine ⟨Int.natCast_nonneg _, ?_⟩
  have a := rt_sq hn
  have c : n.natAbs < 2 ^ ((b + 1) / 2) * 2 ^ ((b + 1) / 2) := by
    rw [← Nat.pow_add]
    exact Nat.lt_of_lt_of_le h (Nat.pow_le_pow_right (by decide) (by omega))
  have d : n < ((2 ^ ((b + 1) / 2) : Nat) : Int) * ((2 ^ ((b + 1) / 2) : Nat) : Int) := by
    rw [← Int.natCast_mul]
    omega
  exact Int.le_of_lt (sq_lt_imp (Int.natCast_nonneg _) (by omega))

/-! ### the form -/
/-- negative up to the pair's share of its number, positive beyond -/
def q (t j n : Int) : Int := j * j + t * j * n - n * n
theorem q_none_nat (t : Nat) (ht : 1 ≤ t) : ∀ (n j : Nat), j * j + t * j * n = n * n → n = 0 := by
  intro n
  induction n using Nat.strongRecOn with
  | _ n ih =>
    intro j h
    by_cases hn : n = 0
    · exact hn
    exfalso
    have hj : 0 < j := by
      rcases Nat.eq_zero_or_pos j with z | z
      · subst z
        have h2 : n * n = 0 := by simpa using h.symm
        rcases Nat.mul_eq_zero.mp h2 with z | z <;> omega
      · exact z
    have hlt : j < n := by
      rcases Nat.lt_or_ge j n with z | z
      · exact z
      · exfalso
        have h1 : n * n ≤ j * j := Nat.mul_le_mul z z
        have h2 : 0 < t * j * n := Nat.mul_pos (Nat.mul_pos (by omega) hj) (by omega)
        omega
    have htj : t * j < n := by
      rcases Nat.lt_or_ge (t * j) n with z | z
      · exact z
      · exfalso
        have h1 : n * n ≤ t * j * n := Nat.mul_le_mul_right n z
        have h2 : 0 < j * j := Nat.mul_pos hj hj
        omega
    obtain ⟨i, hi⟩ : ∃ i, n = t * j + i := ⟨n - t * j, by omega⟩
    have := ih j hlt i (by
      subst hi
      grind)
    omega
theorem q_none {t j n : Int} (ht : 1 ≤ t) (hj : 0 ≤ j) (hn : 0 ≤ n) (h : q t j n = 0) : n = 0 := by
  obtain ⟨a, rfl⟩ := Int.eq_ofNat_of_zero_le (show 0 ≤ t by omega)
  obtain ⟨b, rfl⟩ := Int.eq_ofNat_of_zero_le hj
  obtain ⟨c, rfl⟩ := Int.eq_ofNat_of_zero_le hn
  have := q_none_nat a (by omega) c b (by
    unfold q at h
    have e : ((b * b + a * b * c : Nat) : Int) = ((c * c : Nat) : Int) := by
      simp only [Int.natCast_mul, Int.natCast_add]
      omega
    exact Int.ofNat.inj e)
  omega
/-- what is below the share, and what beyond -/
theorem q_cmp {t j n j' n' : Int} (ht : 1 ≤ t) (hj' : 0 ≤ j') (hn : 0 ≤ n) (hn' : 0 < n') (h : q t j n < 0) (h' : 0 < q t j' n') : j * n' < j' * n := by
  rcases Int.lt_or_le (j * n') (j' * n) with z | z
  · exact z
  · exfalso
    have p0 : 0 ≤ j' * n := Int.mul_nonneg hj' hn
    have p1 : (j' * n) * (j' * n) ≤ (j * n') * (j * n') := sq_mono p0 z
    have p2 : (j' * n) * (t * (n * n')) ≤ (j * n') * (t * (n * n')) := Int.mul_le_mul_of_nonneg_right z (Int.mul_nonneg (by omega) (Int.mul_nonneg hn (by omega)))
    have p3 : n' * n' * q t j n < 0 := Int.mul_neg_of_pos_of_neg (Int.mul_pos hn' hn') h
    have p4 : 0 ≤ n * n * q t j' n' := Int.mul_nonneg (Int.mul_nonneg hn hn) (by omega)
    unfold q at p3 p4
    grind

/-! ### the lost pairs -/
/-- the lesser number of the lost pair n -/
def les (t n : Int) : Int := (n * (2 - t) + rt (n * n * (t * t + 4))) / 2
/-- the other number -/
def oth (t n : Int) : Int := les t n + t * n
/-- in which pair a number is -/
def fnd (t k : Int) : Int := (rt (k * k * (t * t + 4)) + k * (t - 2)) / (2 * t) + 1
def plc (t k : Int) : Int := if les t (fnd t k) = k then fnd t k else k - fnd t k + 1

theorem disc_nn (t n : Int) : 0 ≤ n * n * (t * t + 4) := by
  have h : ∀ x : Int, 0 ≤ x * x := fun x => by
    rcases Int.le_total 0 x with z | z
    · exact Int.mul_nonneg z z
    · exact Int.mul_nonneg_of_nonpos_of_nonpos z z
  exact Int.mul_nonneg (h n) (by have := h t; omega)
theorem rt_disc_ge {t n : Int} (ht : 0 ≤ t) (hn : 0 ≤ n) : n * t ≤ rt (n * n * (t * t + 4)) := by
  apply le_rt (disc_nn t n)
  have := Int.mul_nonneg hn hn
  grind
theorem les_spec {t n : Int} (ht : 1 ≤ t) (hn : 1 ≤ n) : 0 ≤ les t n - n ∧ q t (les t n - n) n < 0 ∧ 0 < q t (les t n - n + 1) n := by
  have d := disc_nn t n
  have a := rt_sq d
  have b := rt_lt d
  have c := rt_disc_ge (t := t) (n := n) (by omega) (by omega)
  have hs : 0 ≤ rt (n * n * (t * t + 4)) := rt_nn _
  have e : les t n = (n * (2 - t) + rt (n * n * (t * t + 4))) / 2 := rfl
  generalize rt (n * n * (t * t + 4)) = s at *
  generalize les t n = L at *
  have e1 : n * (2 - t) = 2 * n - n * t := by grind
  rw [e1] at e
  have hnt : 1 * 1 ≤ n * t := Int.mul_le_mul hn ht (by omega) (by omega)
  obtain ⟨j, rfl⟩ : ∃ j, L = n + j := ⟨L - n, by omega⟩
  have u1 : 2 * j + n * t ≤ s := by omega
  have u2 : s + 1 ≤ 2 * (j + 1) + n * t := by omega
  have hj : 0 ≤ j := by omega
  have k1 : (2 * j + n * t) * (2 * j + n * t) ≤ s * s := sq_mono (by omega) u1
  have k2 : (s + 1) * (s + 1) ≤ (2 * (j + 1) + n * t) * (2 * (j + 1) + n * t) := sq_mono (by omega) u2
  have f1 : q t j n ≤ 0 := by unfold q; grind
  have f2 : 0 < q t (j + 1) n := by unfold q; grind
  have f3 : q t j n ≠ 0 := fun z => by
    have := q_none ht hj (by omega) z
    omega
  rw [show n + j - n = j by omega]
  exact ⟨hj, by omega, f2⟩
theorem les_of {t n j : Int} (ht : 1 ≤ t) (hn : 1 ≤ n) (hj : 0 ≤ j) (h1 : q t j n < 0) (h2 : 0 < q t (j + 1) n) : les t n = n + j := by
  obtain ⟨a, b, c⟩ := les_spec ht hn
  have x := q_cmp ht (show 0 ≤ j + 1 by omega) (by omega) (by omega) b h2
  have y := q_cmp ht (show 0 ≤ les t n - n + 1 by omega) (by omega) (by omega) h1 c
  have x' := Int.lt_of_mul_lt_mul_right x (by omega)
  have y' := Int.lt_of_mul_lt_mul_right y (by omega)
  omega
theorem rt0 : rt 0 = 0 := rfl
theorem les0 (t : Int) : les t 0 = 0 := by
  unfold les
  simp [rt0]
theorem oth0 (t : Int) : oth t 0 = 0 := by
  unfold oth
  rw [les0]
  omega
theorem les_ge {t n : Int} (ht : 1 ≤ t) (hn : 0 ≤ n) : n ≤ les t n := by
  rcases Int.lt_or_le 0 n with z | z
  · have := (les_spec ht (show 1 ≤ n by omega)).1
    omega
  · have : n = 0 := by omega
    subst this
    rw [les0]
    omega
theorem les_mono {t n m : Int} (ht : 1 ≤ t) (hn : 0 ≤ n) (h : n < m) : les t n < les t m := by
  obtain ⟨a', b', c'⟩ := les_spec ht (show 1 ≤ m by omega)
  rcases Int.lt_or_le 0 n with z | z
  · obtain ⟨a, b, c⟩ := les_spec ht (show 1 ≤ n by omega)
    have x := q_cmp ht (show 0 ≤ les t m - m + 1 by omega) (by omega) (by omega) b c'
    have y : (les t n - n) * m < (les t m - m + 1) * m := Int.lt_of_lt_of_le x (Int.mul_le_mul_of_nonneg_left (by omega) (by omega))
    have x' := Int.lt_of_mul_lt_mul_right y (by omega)
    omega
  · have : n = 0 := by omega
    subst this
    rw [les0]
    omega
theorem les_inj {t n m : Int} (ht : 1 ≤ t) (hn : 0 ≤ n) (hm : 0 ≤ m) (h : les t n = les t m) : n = m := by
  rcases Int.lt_trichotomy n m with z | z | z
  · have := les_mono ht hn z; omega
  · exact z
  · have := les_mono ht hm z; omega
theorem oth_mono {t n m : Int} (ht : 1 ≤ t) (hn : 0 ≤ n) (h : n < m) : oth t n < oth t m := by
  have a := les_mono ht hn h
  have b := Int.mul_le_mul_of_nonneg_left (show n ≤ m by omega) (show 0 ≤ t by omega)
  unfold oth
  omega
theorem oth_inj {t n m : Int} (ht : 1 ≤ t) (hn : 0 ≤ n) (hm : 0 ≤ m) (h : oth t n = oth t m) : n = m := by
  rcases Int.lt_trichotomy n m with z | z | z
  · have := oth_mono ht hn z; omega
  · exact z
  · have := oth_mono ht hm z; omega
theorem les_le_oth {t n : Int} (ht : 1 ≤ t) (hn : 0 ≤ n) : les t n ≤ oth t n := by
  have := Int.mul_nonneg (show 0 ≤ t by omega) hn
  unfold oth
  omega
theorem les_lt_oth {t n : Int} (ht : 1 ≤ t) (hn : 0 < n) : les t n < oth t n := by
  have := Int.mul_pos (show 0 < t by omega) hn
  unfold oth
  omega
/-- no lesser number is another pair's greater one -/
theorem les_ne_oth {t n m : Int} (ht : 1 ≤ t) (hn : 1 ≤ n) (hm : 1 ≤ m) : les t n ≠ oth t m := by
  intro h
  obtain ⟨a, b, c⟩ := les_spec ht hn
  obtain ⟨a', b', c'⟩ := les_spec ht hm
  unfold oth at h
  have tm : 0 ≤ t * m := Int.mul_nonneg (by omega) (by omega)
  generalize les t n = x at *
  generalize les t m = y at *
  obtain ⟨j, rfl⟩ : ∃ j, x = n + j := ⟨x - n, by omega⟩
  obtain ⟨i, rfl⟩ : ∃ i, y = m + i := ⟨y - m, by omega⟩
  rw [show n + j - n = j by omega] at *
  rw [show m + i - m = i by omega] at *
  -- n' = i + t m : q m n' > 0 > q m (n' + 1)
  have p1 : 0 < q t m (i + t * m) := by unfold q at b' ⊢; grind
  have p2 : q t m (i + t * m + 1) < 0 := by unfold q at c' ⊢; grind
  have hn'0 : 0 < i + t * m := by
    have : 1 * 1 ≤ t * m := Int.mul_le_mul ht hm (by omega) (by omega)
    omega
  rcases Int.lt_or_le (i + t * m) n with z | z
  · have x1 := q_cmp ht (show 0 ≤ j + 1 by omega) (by omega) (by omega) p2 c
    have x2 : m * n < (j + 1) * n := Int.lt_of_lt_of_le x1 (Int.mul_le_mul_of_nonneg_left (by omega) (by omega))
    have x3 := Int.lt_of_mul_lt_mul_right x2 (by omega)
    omega
  · have x1 := q_cmp ht (show 0 ≤ m by omega) (by omega) hn'0 b p1
    have x2 : j * (i + t * m) < m * (i + t * m) := Int.lt_of_lt_of_le x1 (Int.mul_le_mul_of_nonneg_left z (by omega))
    have x3 := Int.lt_of_mul_lt_mul_right x2 (by omega)
    omega
/-- a number is in a pair -/
def inp (t n x : Int) : Prop := les t n = x ∨ oth t n = x
theorem inp_one {t n m x : Int} (ht : 1 ≤ t) (hn : 0 ≤ n) (hm : 0 ≤ m) (hx : 1 ≤ x) (h1 : inp t n x) (h2 : inp t m x) : n = m := by
  have p : ∀ {k}, 0 ≤ k → inp t k x → 1 ≤ k := by
    intro k hk h
    rcases Int.lt_or_le 0 k with z | z
    · omega
    · have : k = 0 := by omega
      subst this
      unfold inp at h
      rw [les0, oth0] at h
      omega
  have pn := p hn h1
  have pm := p hm h2
  rcases h1 with h1 | h1 <;> rcases h2 with h2 | h2
  · exact les_inj ht hn hm (by omega)
  · exact absurd (h1.trans h2.symm) (les_ne_oth ht pn pm)
  · exact absurd (h2.trans h1.symm) (les_ne_oth ht pm pn)
  · exact oth_inj ht hn hm (by omega)
theorem fnd_spec {t k : Int} (ht : 1 ≤ t) (hk : 1 ≤ k) : 1 ≤ fnd t k ∧ 0 < q t (k - (fnd t k - 1)) (fnd t k - 1) ∧ q t (k - fnd t k) (fnd t k) < 0 := by
  have d := disc_nn t k
  have a := rt_sq d
  have b := rt_lt d
  have c := rt_disc_ge (t := t) (n := k) (by omega) (by omega)
  have hs : 0 ≤ rt (k * k * (t * t + 4)) := rt_nn _
  have e : fnd t k = (rt (k * k * (t * t + 4)) + k * (t - 2)) / (2 * t) + 1 := rfl
  generalize rt (k * k * (t * t + 4)) = s at *
  generalize fnd t k = F at *
  have ekt : k * (t - 2) = k * t - 2 * k := by grind
  have hkt : k * 1 ≤ k * t := Int.mul_le_mul_of_nonneg_left ht (by omega)
  have h0 : 0 ≤ s + k * (t - 2) := by omega
  have hpos : (0 : Int) < 2 * t := by omega
  have e0 : F - 1 = (s + k * (t - 2)) / (2 * t) := by omega
  have hF : 0 ≤ F - 1 := by
    rw [e0]
    exact Int.ediv_nonneg h0 (by omega)
  have l1 : (F - 1) * (2 * t) ≤ s + k * (t - 2) := by
    rw [e0]
    exact Int.ediv_mul_le _ (by omega)
  have l2 : s + k * (t - 2) < F * (2 * t) := by
    have := Int.lt_ediv_add_one_mul_self (s + k * (t - 2)) hpos
    rw [← e0] at this
    rwa [show F - 1 + 1 = F by omega] at this
  obtain ⟨n, rfl⟩ : ∃ n, F = n + 1 := ⟨F - 1, by omega⟩
  rw [show n + 1 - 1 = n by omega] at *
  -- v = 2 t n - (t - 2) k is within
  have v1 : 2 * t * n - (t - 2) * k ≤ s := by grind
  have tn : 0 ≤ t * n := Int.mul_nonneg (by omega) hF
  have v2 : -(k * t) ≤ 2 * t * n - (t - 2) * k := by grind
  have v3 : s + 1 ≤ 2 * t * (n + 1) - (t - 2) * k := by grind
  have hkk : 0 < k * k := Int.mul_pos (by omega) (by omega)
  have w1 : (2 * t * n - (t - 2) * k) * (2 * t * n - (t - 2) * k) ≤ k * k * (t * t + 4) := by
    rcases Int.le_total 0 (2 * t * n - (t - 2) * k) with z | z
    · have := sq_mono z v1
      omega
    · have := sq_mono (a := -(2 * t * n - (t - 2) * k)) (b := k * t) (by omega) (by omega)
      grind
  have w2 : (s + 1) * (s + 1) ≤ (2 * t * (n + 1) - (t - 2) * k) * (2 * t * (n + 1) - (t - 2) * k) := sq_mono (by omega) v3
  have i1 : 0 ≤ t * q t (k - n) n := by unfold q; grind
  have i2 : t * q t (k - (n + 1)) (n + 1) < 0 := by unfold q; grind
  have j1 : 0 ≤ q t (k - n) n := by
    rcases Int.lt_or_le (q t (k - n) n) 0 with z | z
    · have := Int.mul_neg_of_pos_of_neg (show 0 < t by omega) z
      omega
    · exact z
  have j2 : q t (k - (n + 1)) (n + 1) < 0 := by
    rcases Int.lt_or_le (q t (k - (n + 1)) (n + 1)) 0 with z | z
    · exact z
    · have := Int.mul_nonneg (show 0 ≤ t by omega) z
      omega
  have hm : 0 ≤ k - n := by
    rcases Int.lt_or_le k n with z | z
    · exfalso
      have y1 : t * (n * (k - n)) ≤ 0 := Int.mul_nonpos_of_nonneg_of_nonpos (by omega) (Int.mul_nonpos_of_nonneg_of_nonpos hF (by omega))
      have y2 : k * k < k * n := Int.mul_lt_mul_of_pos_left z (by omega)
      unfold q at j1
      grind
    · omega
  refine ⟨by omega, ?_, j2⟩
  rcases Int.lt_or_eq_of_le j1 with z | z
  · exact z
  · exfalso
    have n0 := q_none ht hm hF z.symm
    subst n0
    unfold q at z
    grind
/-- each number above 0 is in the pair that is told -/
theorem plc_ok {t k : Int} (ht : 1 ≤ t) (hk : 1 ≤ k) : 1 ≤ plc t k ∧ inp t (plc t k) k := by
  obtain ⟨a, b, c⟩ := fnd_spec ht hk
  unfold plc
  by_cases h : les t (fnd t k) = k
  · rw [if_pos h]
    exact ⟨a, .inl h⟩
  · rw [if_neg h]
    obtain ⟨a1, b1, c1⟩ := les_spec ht a
    generalize fnd t k = F at *
    obtain ⟨n, rfl⟩ : ∃ n, F = n + 1 := ⟨F - 1, by omega⟩
    rw [show n + 1 - 1 = n by omega] at *
    -- k < F α, so the lesser number of F is k or more
    have hge : k ≤ les t (n + 1) := by
      rcases Int.lt_or_le (les t (n + 1)) k with z | z
      · exfalso
        -- les - F + 1 ≤ k - F, yet the form is positive there
        have y := q_cmp ht (show 0 ≤ les t (n + 1) - (n + 1) + 1 by omega) (by omega) (by omega) c c1
        have y' := Int.lt_of_mul_lt_mul_right y (by omega)
        omega
      · exact z
    -- m = k - n
    have p2 : q t (k - n) (n + 1) < 0 := by
      rcases Int.lt_or_le (q t (k - n) (n + 1)) 0 with z | z
      · exact z
      · exfalso
        have hkn : 0 ≤ k - n := by
          rcases Int.lt_or_le k n with z | z
          · exfalso
            have y1 : t * (n * (k - n)) ≤ 0 := Int.mul_nonpos_of_nonneg_of_nonpos (by omega) (Int.mul_nonpos_of_nonneg_of_nonpos (by omega) (by omega))
            have y2 : k * k < k * n := Int.mul_lt_mul_of_pos_left z (by omega)
            have y3 : 0 < k * k := Int.mul_pos (by omega) (by omega)
            unfold q at b
            grind
          · omega
        rcases Int.lt_or_eq_of_le z with z | z
        · have y := q_cmp ht hkn (by omega) (by omega) b1 z
          have y' := Int.lt_of_mul_lt_mul_right y (by omega)
          omega
        · have := q_none ht hkn (by omega) z.symm
          omega
    have hm : 1 ≤ k - n := by
      rcases Int.lt_or_le n k with z | z
      · omega
      · exfalso
        have y1 : t * (n * (k - n)) ≤ 0 := Int.mul_nonpos_of_nonneg_of_nonpos (by omega) (Int.mul_nonpos_of_nonneg_of_nonpos (by omega) (by omega))
        have y2 : k * k ≤ k * n := Int.mul_le_mul_of_nonneg_left z (by omega)
        have y3 : 0 < k * k := Int.mul_pos (by omega) (by omega)
        unfold q at b
        grind
    obtain ⟨m, rfl⟩ : ∃ m, k = m + n := ⟨k - n, by omega⟩
    rw [show m + n - n = m by omega] at *
    have htm : t * m ≤ n := by
      rcases Int.lt_or_le n (t * m) with z | z
      · exfalso
        have y1 : (n + 1) * (n + 1) ≤ t * m * (n + 1) := Int.mul_le_mul_of_nonneg_right (by omega) (by omega)
        have y2 : 0 < m * m := Int.mul_pos (by omega) (by omega)
        unfold q at p2
        omega
      · exact z
    have r1 : q t (n - t * m) m < 0 := by unfold q at b ⊢; grind
    have r2 : 0 < q t (n - t * m + 1) m := by unfold q at p2 ⊢; grind
    have e := les_of ht hm (show 0 ≤ n - t * m by omega) r1 r2
    refine ⟨by omega, .inr ?_⟩
    rw [show m + n - (n + 1) + 1 = m by omega]
    unfold oth
    omega
theorem plc_eq {t n x : Int} (ht : 1 ≤ t) (hn : 0 ≤ n) (hx : 1 ≤ x) (h : inp t n x) : plc t x = n := by
  obtain ⟨a, b⟩ := plc_ok ht hx
  exact inp_one ht (by omega) hn hx b h
theorem les_le {t n : Int} (ht : 1 ≤ t) (hn : 0 ≤ n) : les t n ≤ 2 * n := by
  rcases Int.lt_or_le 0 n with z | z
  · obtain ⟨a, b, c⟩ := les_spec ht (show 1 ≤ n by omega)
    have p : 0 < q t n n := by
      have := Int.mul_pos (Int.mul_pos (show 0 < t by omega) z) z
      unfold q
      omega
    have x := q_cmp ht (show 0 ≤ n by omega) (by omega) z b p
    have y := Int.lt_of_mul_lt_mul_right x (by omega)
    omega
  · have : n = 0 := by omega
    subst this
    rw [les0]
    omega
theorem les_nn {t n : Int} (ht : 1 ≤ t) (hn : 0 ≤ n) : 0 ≤ les t n := by
  have := les_ge ht hn
  omega
theorem oth_nn {t n : Int} (ht : 1 ≤ t) (hn : 0 ≤ n) : 0 ≤ oth t n := by
  have := les_nn ht hn
  have := les_le_oth ht hn
  omega
theorem fnd_le {t k : Int} (ht : 1 ≤ t) (hk : 1 ≤ k) : fnd t k ≤ k := by
  obtain ⟨a, b, c⟩ := fnd_spec ht hk
  generalize fnd t k = F at *
  rcases Int.lt_or_le k F with z | z
  · exfalso
    obtain ⟨n, rfl⟩ : ∃ n, F = n + 1 := ⟨F - 1, by omega⟩
    rw [show n + 1 - 1 = n by omega] at *
    have y1 : t * (n * (k - n)) ≤ 0 := Int.mul_nonpos_of_nonneg_of_nonpos (by omega) (Int.mul_nonpos_of_nonneg_of_nonpos (by omega) (by omega))
    have y2 : k * k ≤ k * n := Int.mul_le_mul_of_nonneg_left (by omega) (by omega)
    have y3 : 0 < k * k := Int.mul_pos (by omega) (by omega)
    unfold q at b
    grind
  · exact z
theorem plc_le {t k : Int} (ht : 1 ≤ t) (hk : 1 ≤ k) : plc t k ≤ k := by
  obtain ⟨a, b⟩ := plc_ok ht hk
  have c := les_ge ht (show 0 ≤ plc t k by omega)
  have d := les_le_oth ht (show 0 ≤ plc t k by omega)
  rcases b with b | b <;> omega
end TH

/-! Two heaps: takings, lost heaps, and the taking that is told. -/
namespace TH
/-- a taking of the heaps x, y -/
def Legal (t x y i j : Int) : Prop := 0 ≤ i ∧ 0 ≤ j ∧ ¬ (i = 0 ∧ j = 0) ∧ i ≤ x ∧ j ≤ y ∧ (i = 0 ∨ j = 0 ∨ (i - j < t ∧ j - i < t))
instance (t x y i j : Int) : Decidable (Legal t x y i j) := by unfold Legal; exact inferInstance
/-- the heaps x, y are a lost pair: as the program asks -/
def IsLost (t x y : Int) : Prop := (max x y - min x y) % t = 0 ∧ les t ((max x y - min x y) / t) = min x y
instance (t x y : Int) : Decidable (IsLost t x y) := by unfold IsLost; exact inferInstance
theorem lost_swap {t x y : Int} : IsLost t x y ↔ IsLost t y x := by
  unfold IsLost
  rw [Int.max_comm, Int.min_comm]
theorem legal_swap {t x y i j : Int} : Legal t x y i j ↔ Legal t y x j i := by
  unfold Legal
  omega
theorem div_mul_of {a t : Int} (h : a % t = 0) : t * (a / t) = a := Int.mul_ediv_cancel' (Int.dvd_of_emod_eq_zero h)
theorem lost_oth {t x y : Int} (h : IsLost t x y) : oth t ((max x y - min x y) / t) = max x y := by
  have e := div_mul_of h.1
  have e2 := h.2
  unfold oth
  omega
theorem lost_num {t x y : Int} (ht : 1 ≤ t) : 0 ≤ (max x y - min x y) / t := Int.ediv_nonneg (by omega) (by omega)
theorem lost_of {t n : Int} (ht : 1 ≤ t) (hn : 0 ≤ n) : IsLost t (les t n) (oth t n) := by
  have a := les_le_oth ht hn
  have e1 : max (les t n) (oth t n) = oth t n := by omega
  have e2 : min (les t n) (oth t n) = les t n := by omega
  unfold IsLost
  rw [e1, e2]
  have e3 : oth t n - les t n = t * n := by unfold oth; omega
  rw [e3, Int.mul_emod_right, Int.mul_ediv_cancel_left n (show t ≠ 0 by omega)]
  exact ⟨rfl, rfl⟩
/-- lost heaps: both numbers are in one pair, and of two numbers above 0 just the two of it -/
theorem lost_in {t x y : Int} (h : IsLost t x y) : inp t ((max x y - min x y) / t) x ∧ inp t ((max x y - min x y) / t) y ∧ x + y = les t ((max x y - min x y) / t) + oth t ((max x y - min x y) / t) := by
  have a := h.2
  have b := lost_oth h
  unfold inp
  omega
theorem lost_same {t x y x' y' : Int} (ht : 1 ≤ t) (h : IsLost t x y) (h' : IsLost t x' y') (e : max x y - min x y = max x' y' - min x' y') : x + y = x' + y' := by
  have a := (lost_in h).2.2
  have b := (lost_in h').2.2
  rw [e] at a
  omega
/-- from lost heaps no taking leaves lost ones -/
theorem no_lost {t x y i j : Int} (ht : 1 ≤ t) (h : IsLost t x y) (l : Legal t x y i j) (h' : IsLost t (x - i) (y - j)) : False := by
  obtain ⟨i0, j0, ij, ix, jy, d⟩ := l
  obtain ⟨p1, p2, p3⟩ := lost_in h
  obtain ⟨q1, q2, q3⟩ := lost_in h'
  have n1 := lost_num (x := x) (y := y) ht
  have n2 := lost_num (x := x - i) (y := y - j) ht
  have hA := h.2
  have hB := lost_oth h
  have a1 := div_mul_of h.1
  have a2 := div_mul_of h'.1
  generalize (max x y - min x y) / t = n at *
  generalize (max (x - i) (y - j) - min (x - i) (y - j)) / t = m at *
  -- one number above 0 in both pairs: the same pair, yet the sum is less
  have one : ∀ z : Int, 1 ≤ z → inp t n z → inp t m z → False := fun z hz u v => by
    have e := inp_one ht n1 n2 hz u v
    subst e
    omega
  -- nothing in a heap: the pair is 0, 0
  have nil : min x y = 0 → max x y = 0 := fun e => by
    have g := les_ge ht n1
    have e3 : n = 0 := by omega
    rw [e3, oth0] at hB
    omega
  by_cases zi : i = 0
  · rw [zi, Int.sub_zero] at q1
    rcases Int.lt_or_eq_of_le (show 0 ≤ x by omega) with z | z
    · exact one x (by omega) p1 q1
    · have := nil (by omega)
      omega
  · by_cases zj : j = 0
    · rw [zj, Int.sub_zero] at q2
      rcases Int.lt_or_eq_of_le (show 0 ≤ y by omega) with z | z
      · exact one y (by omega) p2 q2
      · have := nil (by omega)
        omega
    · -- of both: the heaps are as far apart as before
      have d' : i - j < t ∧ j - i < t := by omega
      have key : n = m := by
        rcases Int.lt_trichotomy n m with z | z | z
        · exfalso
          have b := Int.mul_le_mul_of_nonneg_left (show n + 1 ≤ m by omega) (show 0 ≤ t by omega)
          rw [Int.mul_add] at b
          have c := Int.mul_nonneg (show 0 ≤ t by omega) n1
          omega
        · exact z
        · exfalso
          have b := Int.mul_le_mul_of_nonneg_left (show m + 1 ≤ n by omega) (show 0 ≤ t by omega)
          rw [Int.mul_add] at b
          have c := Int.mul_nonneg (show 0 ≤ t by omega) n2
          omega
      subst key
      omega
/-- the taking that is told of the lesser heap and the greater one -/
def tkg (t lo hi : Int) : Int × Int :=
  if lo = 0 then (0, hi)
  else if les t (plc t lo) + oth t (plc t lo) - lo < hi then (0, hi - (les t (plc t lo) + oth t (plc t lo) - lo))
  else (lo - les t ((hi - lo) / t), hi - les t ((hi - lo) / t) - t * ((hi - lo) / t))
theorem tkg_ok {t lo hi : Int} (ht : 1 ≤ t) (h0 : 0 ≤ lo) (h1 : lo ≤ hi) (h : ¬ IsLost t lo hi) : Legal t lo hi (tkg t lo hi).1 (tkg t lo hi).2 ∧ IsLost t (lo - (tkg t lo hi).1) (hi - (tkg t lo hi).2) := by
  unfold tkg
  by_cases z : lo = 0
  · rw [if_pos z]
    subst z
    have hh : hi ≠ 0 := fun e => by
      subst e
      exact h (by
        have := lost_of ht (show (0 : Int) ≤ 0 by omega)
        rwa [les0, oth0] at this)
    refine ⟨?_, ?_⟩
    · show Legal t 0 hi 0 hi
      unfold Legal
      omega
    · show IsLost t (0 - 0) (hi - hi)
      have := lost_of ht (show (0 : Int) ≤ 0 by omega)
      rw [les0, oth0] at this
      rw [Int.sub_self, Int.sub_self]
      exact this
  · rw [if_neg z]
    obtain ⟨p1, p2⟩ := plc_ok ht (show 1 ≤ lo by omega)
    have p3 := les_le_oth ht (show 0 ≤ plc t lo by omega)
    have p4 := lost_of ht (show 0 ≤ plc t lo by omega)
    have p5 := les_ge ht (show 0 ≤ plc t lo by omega)
    generalize plc t lo = n at *
    by_cases c : les t n + oth t n - lo < hi
    · rw [if_pos c]
      refine ⟨?_, ?_⟩
      · show Legal t lo hi 0 (hi - (les t n + oth t n - lo))
        unfold Legal
        unfold inp at p2
        omega
      · show IsLost t (lo - 0) (hi - (hi - (les t n + oth t n - lo)))
        rcases p2 with p2 | p2
        · rw [show lo - 0 = les t n by omega, show hi - (hi - (les t n + oth t n - lo)) = oth t n by omega]
          exact p4
        · rw [show lo - 0 = oth t n by omega, show hi - (hi - (les t n + oth t n - lo)) = les t n by omega]
          exact lost_swap.mp p4
    · rw [if_neg c]
      -- the lesser number is the pair's lesser one, the greater heap less than its partner
      have p6 : les t n = lo := by
        rcases p2 with p2 | p2
        · exact p2
        · exfalso
          have := les_lt_oth ht (show 0 < n by omega)
          omega
      have hlt : hi < oth t n := by
        rcases Int.lt_or_eq_of_le (show hi ≤ oth t n by omega) with z2 | z2
        · exact z2
        · exfalso
          rw [← p6, z2] at h
          exact h p4
      have m0 : 0 ≤ (hi - lo) / t := Int.ediv_nonneg (by omega) (by omega)
      have m1 : t * ((hi - lo) / t) ≤ hi - lo := by
        rw [Int.mul_comm]
        exact Int.ediv_mul_le _ (by omega)
      have m2 : hi - lo < t * ((hi - lo) / t) + t := by
        have := Int.lt_ediv_add_one_mul_self (hi - lo) (show 0 < t by omega)
        rw [Int.mul_comm, Int.mul_add, Int.mul_one] at this
        exact this
      have eo : oth t n = les t n + t * n := rfl
      generalize (hi - lo) / t = m at *
      have mn : m < n := by
        rcases Int.lt_or_le m n with z2 | z2
        · exact z2
        · exfalso
          have := Int.mul_le_mul_of_nonneg_left z2 (show 0 ≤ t by omega)
          omega
      have q1 := les_mono ht m0 mn
      have q2 := les_nn ht m0
      refine ⟨?_, ?_⟩
      · show Legal t lo hi (lo - les t m) (hi - les t m - t * m)
        have := Int.mul_nonneg (show 0 ≤ t by omega) m0
        unfold Legal
        omega
      · show IsLost t (lo - (lo - les t m)) (hi - (hi - les t m - t * m))
        rw [show lo - (lo - les t m) = les t m by omega, show hi - (hi - les t m - t * m) = oth t m by unfold oth; omega]
        exact lost_of ht m0
theorem tkg_bd {t lo hi : Int} (ht : 1 ≤ t) (h0 : 0 ≤ lo) (h1 : lo ≤ hi) : -(2 * hi) ≤ (tkg t lo hi).1 ∧ (tkg t lo hi).1 ≤ hi ∧ -(2 * hi) ≤ (tkg t lo hi).2 ∧ (tkg t lo hi).2 ≤ hi := by
  unfold tkg
  by_cases z : lo = 0
  · rw [if_pos z]
    show -(2 * hi) ≤ 0 ∧ 0 ≤ hi ∧ -(2 * hi) ≤ hi ∧ hi ≤ hi
    omega
  · rw [if_neg z]
    obtain ⟨p1, p2⟩ := plc_ok ht (show 1 ≤ lo by omega)
    have p3 := les_nn ht (show 0 ≤ plc t lo by omega)
    have p4 := oth_nn ht (show 0 ≤ plc t lo by omega)
    generalize plc t lo = n at *
    by_cases c : les t n + oth t n - lo < hi
    · rw [if_pos c]
      show -(2 * hi) ≤ 0 ∧ 0 ≤ hi ∧ -(2 * hi) ≤ hi - (les t n + oth t n - lo) ∧ hi - (les t n + oth t n - lo) ≤ hi
      unfold inp at p2
      omega
    · rw [if_neg c]
      have m0 : 0 ≤ (hi - lo) / t := Int.ediv_nonneg (by omega) (by omega)
      have m1 : t * ((hi - lo) / t) ≤ hi - lo := by
        rw [Int.mul_comm]
        exact Int.ediv_mul_le _ (by omega)
      have m3 : (hi - lo) / t ≤ hi - lo := by
        have := Int.mul_le_mul_of_nonneg_right ht m0
        omega
      have m4 := les_le ht m0
      have m5 := les_nn ht m0
      have m6 := Int.mul_nonneg (show 0 ≤ t by omega) m0
      show -(2 * hi) ≤ lo - les t ((hi - lo) / t) ∧ lo - les t ((hi - lo) / t) ≤ hi ∧ -(2 * hi) ≤ hi - les t ((hi - lo) / t) - t * ((hi - lo) / t) ∧ hi - les t ((hi - lo) / t) - t * ((hi - lo) / t) ≤ hi
      omega
/-- .. of the heaps as they stand -/
def tak (t x y : Int) : Int × Int := if x ≤ y then tkg t x y else ((tkg t y x).2, (tkg t y x).1)
theorem tak_ok {t x y : Int} (ht : 1 ≤ t) (hx : 0 ≤ x) (hy : 0 ≤ y) (h : ¬ IsLost t x y) : Legal t x y (tak t x y).1 (tak t x y).2 ∧ IsLost t (x - (tak t x y).1) (y - (tak t x y).2) := by
  unfold tak
  by_cases c : x ≤ y
  · rw [if_pos c]
    exact tkg_ok ht hx c h
  · rw [if_neg c]
    obtain ⟨a, b⟩ := tkg_ok ht hy (show y ≤ x by omega) (fun z => h (lost_swap.mp z))
    exact ⟨legal_swap.mp a, lost_swap.mp b⟩
theorem tak_bd {t x y : Int} (ht : 1 ≤ t) (hx : 0 ≤ x) (hy : 0 ≤ y) : -(2 * max x y) ≤ (tak t x y).1 ∧ (tak t x y).1 ≤ max x y ∧ -(2 * max x y) ≤ (tak t x y).2 ∧ (tak t x y).2 ≤ max x y := by
  unfold tak
  by_cases c : x ≤ y
  · rw [if_pos c]
    have := tkg_bd ht hx c
    omega
  · rw [if_neg c]
    have := tkg_bd ht hy (show y ≤ x by omega)
    show -(2 * max x y) ≤ (tkg t y x).2 ∧ (tkg t y x).2 ≤ max x y ∧ -(2 * max x y) ≤ (tkg t y x).1 ∧ (tkg t y x).1 ≤ max x y
    omega
/-- by all takings: lost is just what no taking leads from to lost heaps -/
theorem lost_iff {t x y : Int} (ht : 1 ≤ t) (hx : 0 ≤ x) (hy : 0 ≤ y) : IsLost t x y ↔ ∀ i j, Legal t x y i j → ¬ IsLost t (x - i) (y - j) := by
  constructor
  · intro h i j l h'
    exact no_lost ht h l h'
  · intro h
    by_cases c : IsLost t x y
    · exact c
    · obtain ⟨a, b⟩ := tak_ok ht hx hy c
      exact absurd b (h _ _ a)
theorem lost_apart {t x y : Int} (h : IsLost t x y) : (max x y - min x y) / t * t = max x y - min x y := by
  rw [Int.mul_comm]
  exact div_mul_of h.1
end TH

/-! ### rules of our own over the hand layer -/
namespace TH
open PySem PySem.Spec PyProof.Rows L2

/-! #### sizes -/
structure Bd (k : Nat) (i : Int) : Prop where
  out : i.natAbs < 2 ^ k
theorem bd_mono {a b : Nat} {i : Int} (h : Bd a i) (hab : a ≤ b) : Bd b i := ⟨Nat.lt_of_lt_of_le h.out (Nat.pow_le_pow_right (by decide) hab)⟩
theorem bd_mul {a b : Nat} {i j : Int} (ha : Bd a i) (hb : Bd b j) : Bd (a + b) (i * j) := ⟨wide_lt ha.out hb.out⟩
theorem bd_add {a b : Nat} {i j : Int} (ha : Bd a i) (hb : Bd b j) : Bd (max a b + 1) (i + j) := by
  have h1 := (bd_mono ha (Nat.le_max_left a b)).out
  have h2 := (bd_mono hb (Nat.le_max_right a b)).out
  have e : 2 ^ (max a b + 1) = 2 ^ max a b + 2 ^ max a b := by omega
  have h3 := Int.natAbs_add_le i j
  exact ⟨by omega⟩
theorem bd_neg {a : Nat} {i : Int} (ha : Bd a i) : Bd a (-i) := ⟨by
  rw [Int.natAbs_neg]
  exact ha.out⟩
theorem bd_sub {a b : Nat} {i j : Int} (ha : Bd a i) (hb : Bd b j) : Bd (max a b + 1) (i - j) := by
  have h := bd_add ha (bd_neg hb)
  rwa [← Int.sub_eq_add_neg] at h
theorem bd_div {a : Nat} {i j : Int} (ha : Bd a i) (hj : 0 < j) : Bd a (i / j) := by
  have h : (i / j).natAbs ≤ i.natAbs := by
    obtain ⟨k, rfl⟩ := Int.eq_ofNat_of_zero_le (Int.le_of_lt hj)
    exact Int.natAbs_ediv_le_natAbs i k
  exact ⟨Nat.lt_of_le_of_lt h ha.out⟩
theorem bd_mod {b : Nat} {i j : Int} (hb : Bd b j) (hj : 0 < j) : Bd b (i % j) := by
  have h1 := Int.emod_nonneg i (show j ≠ 0 by omega)
  have h2 := Int.emod_lt_of_pos i hj
  have hb' := hb.out
  exact ⟨by omega⟩
theorem bd_le {a : Nat} {i j : Int} (ha : Bd a j) (h0 : 0 ≤ i) (h : i ≤ j) : Bd a i := ⟨wide_le h0 h ha.out⟩
theorem bd_lt {a : Nat} {i : Int} (h0 : 0 ≤ i) (h : i < 2 ^ a) : Bd a i := by
  have e := pow_cast a
  exact ⟨by omega⟩
theorem bd_nn {a : Nat} {i : Int} (h : Bd a i) : i < 2 ^ a := by
  have e := pow_cast a
  have h' := h.out
  omega
theorem bd_max2 {a : Nat} {i j : Int} (ha : Bd a i) (hb : Bd a j) : Bd a (max i j) := by
  rcases Int.le_total i j with h | h
  · rw [Int.max_eq_right h]; exact hb
  · rw [Int.max_eq_left h]; exact ha
theorem bd_max {i j : Int} (ha : Bd 600 i) (hb : Bd 600 j) : Bd 602 (max i j) := bd_mono (bd_max2 ha hb) (by decide)
theorem bd_lit {i : Int} (h : i.natAbs < 2 ^ 140 := by decide) : Bd 140 i := ⟨h⟩
theorem bd_one : Bd 1 1 := ⟨by decide⟩
theorem bits_lt (i : Int) : i.natAbs < 2 ^ Builtin.Int.intBits i := by
  unfold Builtin.Int.intBits
  split
  · rename_i z
    have : i = 0 := by simpa using z
    subst this
    decide
  · exact Nat.lt_log2_self
theorem bd_bits {i : Int} {k : Nat} (h : Builtin.Int.intBits i ≤ k) : Bd k i := bd_mono (a := Builtin.Int.intBits i) ⟨bits_lt i⟩ h
/-- a word that the reading does not open -/
@[irreducible] def Opq (p : Prop) : Prop := p
theorem opq_mk {p : Prop} (h : p) : Opq p := by unfold Opq; exact h
theorem opq_out {p : Prop} (h : Opq p) : p := by unfold Opq at h; exact h
/-! #### readings that ask more of what follows -/
section
variable {X : Cx}
theorem PE.imp {e : Expr} {t t' : TE} (h : PE X e t) (w : ∀ σ H Q, t' σ H Q → t σ H Q) : PE X e t' := ⟨fun pins s σ H Q I hq => h.run pins s σ H Q I (w σ H Q hq)⟩
theorem PA.mon {es : List Expr} {t : TA} (h : PA X es t) : PA X es (fun σ H R => ∃ R0 : List V → Hp → Prop, (∀ xs H1, R0 xs H1 → R xs H1) ∧ t σ H R0) :=
  ⟨fun pos pins s σ H Q I ⟨R0, m, hq⟩ => thn (h.run pos pins s σ H _ I hq) fun us s1 ⟨xs, H1, I1, r1, q1⟩ => ⟨xs, H1, I1, r1, m _ _ q1⟩⟩
/-- one expression, read either way -/
theorem pe_or2 {e : Expr} {t u : TE} (h1 : PE X e t) (h2 : PE X e u) : PE X e (fun σ H Q => t σ H Q ∨ u σ H Q) := ⟨fun pins s σ H Q I h => h.elim (h1.run pins s σ H Q I) (h2.run pins s σ H Q I)⟩
theorem Same.new {H : Hp} {p : Addr} {o : HO} (h : H p = none) : Same H (upd H p o) := fun a u e => by
  rw [upd_ne (ne_of_none e h)]
  exact e
/-- a new tuple, a new list: the heap behind it by what is known of it -/
def tTupA (t : TA) : TE := fun σ H Q => t σ H fun xs H1 => xs.length ≤ 64 ∧ ∀ p H2, H1 p = none → Same H1 H2 → H2 p = some (.tup xs) → Q (.ref p) H2
def tLstA (t : TA) : TE := fun σ H Q => t σ H fun xs H1 => xs.length ≤ 64 ∧ ∀ p H2, H1 p = none → Same H1 H2 → H2 p = some (.lst xs) → Q (.ref p) H2
theorem le64 {n : Nat} (h : Nat.ble n 64 = true) : n ≤ 64 := Nat.le_of_ble_eq_true h
theorem le_line {n : Nat} (h : n ≤ 64) : n ≤ sizeLine := Nat.le_trans h (by decide)
theorem pe_tupA {es : List Expr} {t : TA} {pos x1} (h : PA X es t) : PE X (.Tuple es x1 pos) (tTupA t) :=
  PE.imp (pe_tup (PA.mon h)) fun σ H Q hq => ⟨_, fun xs H1 z => ⟨le_line z.1, fun p hp => z.2 p _ hp (Same.new hp) upd_same⟩, hq⟩
theorem pe_lstA {es : List Expr} {t : TA} {pos} (h : PA X es t) : PE X (.List es pos) (tLstA t) :=
  PE.imp (pe_lst (PA.mon h)) fun σ H Q hq => ⟨_, fun xs H1 z => ⟨le_line z.1, fun p hp => z.2 p _ hp (Same.new hp) upd_same⟩, hq⟩

theorem OpR.imp {f : Value → Value → Sem Value} {r r' : R2} (h : OpR X f r) (w : ∀ x y H Q, r' x y H Q → r x y H Q) : OpR X f r' := fun pins s σ H x y v u Q I rx ry hq => h pins s σ H x y v u Q I rx ry (w _ _ _ _ hq)
theorem CallR.imp {f : Value} {r r' : List V → Hp → VK → Prop} (h : CallR X f r) (w : ∀ xs H Q, r' xs H Q → r xs H Q) : CallR X f r' := fun pins s σ H xs us Q I rx hq => h pins s σ H xs us Q I rx (w _ _ _ hq)

/-! #### operators -/
structure CM (i j : Int) : Prop where
  out : ∃ a b, Bd a i ∧ Bd b j ∧ a + b ≤ 134217728
structure CD (i j : Int) : Prop where
  pos : 0 < j
  bd : Bd 9000 j
theorem cm_ok {i j : Int} {a b : Nat} (ha : Bd a i) (hb : Bd b j) (h : Nat.ble (a + b) 134217728 = true) : CM i j := ⟨⟨a, b, ha, hb, Nat.le_of_ble_eq_true h⟩⟩
theorem cd_ok {i j : Int} {b : Nat} (h0 : 0 < j) (hb : Bd b j) (h : Nat.ble b 9000 = true) : CD i j := ⟨h0, bd_mono hb (Nat.le_of_ble_eq_true h)⟩
theorem bd_mono' {a b : Nat} {i : Int} (h : Bd a i) (hab : Nat.ble a b = true) : Bd b i := bd_mono h (Nat.le_of_ble_eq_true hab)
theorem bd_le64 {α : Type} {xs : List α} (h : Nat.ble xs.length 64 = true) : xs.length ≤ 64 := Nat.le_of_ble_eq_true h
theorem oMul : OpR X (binaryOp .Mult) (rI CM fun i j => .int (i * j)) := OpR.imp op_mulX fun x y H Q ⟨i, j, h1, h2, ⟨a, b, ha, hb, hab⟩, q⟩ => ⟨i, j, h1, h2, mulx_ok ha.out hb.out hab, q⟩
theorem oDiv : OpR X (binaryOp .FloorDiv) (rI CD fun i j => .int (i / j)) := OpR.imp op_fdivW fun x y H Q ⟨i, j, h1, h2, ⟨a, b⟩, q⟩ => ⟨i, j, h1, h2, wide_div a b.out (by decide) (by decide), q⟩
theorem oMod : OpR X (binaryOp .Mod) (rI (fun _ j => 0 < j) fun i j => .int (i % j)) := op_mod
theorem dI (i j : Int) : decide (V.int i = V.int j) = decide (i = j) := by
  by_cases e : i = j
  · subst e; simp
  · rw [decide_eq_false e, decide_eq_false fun z => e (V.int.inj z)]
theorem dB (i j : Bool) : decide (V.bl i = V.bl j) = decide (i = j) := by
  cases i <;> cases j <;> rfl
theorem oEq : OpR X (compareOp .Eq) (rI0 fun i j => .bl (decide (i = j))) := OpR.imp op_eq fun x y H Q ⟨i, j, h1, h2, q⟩ => by
  subst h1 h2
  refine ⟨rfl, ?_⟩
  rw [dI]
  exact q
theorem oNe : OpR X (compareOp .NotEq) (rI0 fun i j => .bl (!decide (i = j))) := OpR.imp op_ne fun x y H Q ⟨i, j, h1, h2, q⟩ => by
  subst h1 h2
  refine ⟨rfl, ?_⟩
  rw [dI]
  exact q
def rBb (g : Bool → Bool → Bool) : R2 := fun x y H Q => ∃ i j, x = .bl i ∧ y = .bl j ∧ Q (.bl (g i j)) H
theorem oEqB : OpR X (compareOp .Eq) (rBb fun i j => decide (i = j)) := OpR.imp op_eq fun x y H Q ⟨i, j, h1, h2, q⟩ => by
  subst h1 h2
  refine ⟨rfl, ?_⟩
  rw [dB]
  exact q
theorem oNeB : OpR X (compareOp .NotEq) (rBb fun i j => !decide (i = j)) := OpR.imp op_ne fun x y H Q ⟨i, j, h1, h2, q⟩ => by
  subst h1 h2
  refine ⟨rfl, ?_⟩
  rw [dB]
  exact q

/-- 10 ** 18, 10 ** 40, 10 ** 60 -/
def rP (e : Int) (z : Int) : R2 := fun x y H Q => x = .int 10 ∧ y = .int e ∧ Q (.int z) H
theorem oP18 : OpR X (binaryOp .Pow) (rP 18 1000000000000000000) := OpR.imp op_pow fun x y H Q ⟨h1, h2, q⟩ => ⟨10, 18, h1, h2, ⟨by decide, by decide, by decide⟩, q⟩
theorem oP40 : OpR X (binaryOp .Pow) (rP 40 10000000000000000000000000000000000000000) := OpR.imp op_pow fun x y H Q ⟨h1, h2, q⟩ => ⟨10, 40, h1, h2, ⟨by decide, by decide, by decide⟩, q⟩
theorem oP60 : OpR X (binaryOp .Pow) (rP 60 1000000000000000000000000000000000000000000000000000000000000) := OpR.imp op_pow fun x y H Q ⟨h1, h2, q⟩ => ⟨10, 60, h1, h2, ⟨by decide, by decide, by decide⟩, q⟩
/-! #### isinstance of built-in types -/
theorem kq_int_int {K : PySem.W.Frag} : PySem.W.kitOne K (.type "int") (.type "int") = some true := kit_ty (by decide +kernel)
theorem kq_int_bool {K : PySem.W.Frag} : PySem.W.kitOne K (.type "int") (.type "bool") = some false := kit_ty (by decide +kernel)
theorem kq_int_tuple {K : PySem.W.Frag} : PySem.W.kitOne K (.type "int") (.type "tuple") = some false := kit_ty (by decide +kernel)
theorem kq_bool_int {K : PySem.W.Frag} : PySem.W.kitOne K (.type "bool") (.type "int") = some true := kit_ty (by decide +kernel)
theorem kq_bool_bool {K : PySem.W.Frag} : PySem.W.kitOne K (.type "bool") (.type "bool") = some true := kit_ty (by decide +kernel)
theorem kq_bool_tuple {K : PySem.W.Frag} : PySem.W.kitOne K (.type "bool") (.type "tuple") = some false := kit_ty (by decide +kernel)
theorem kq_tuple_int {K : PySem.W.Frag} : PySem.W.kitOne K (.type "tuple") (.type "int") = some false := kit_ty (by decide +kernel)
theorem kq_tuple_bool {K : PySem.W.Frag} : PySem.W.kitOne K (.type "tuple") (.type "bool") = some false := kit_ty (by decide +kernel)
theorem kq_tuple_tuple {K : PySem.W.Frag} : PySem.W.kitOne K (.type "tuple") (.type "tuple") = some true := kit_ty (by decide +kernel)
theorem kq_NoneType_int {K : PySem.W.Frag} : PySem.W.kitOne K (.type "NoneType") (.type "int") = some false := kit_ty (by decide +kernel)
theorem kq_NoneType_bool {K : PySem.W.Frag} : PySem.W.kitOne K (.type "NoneType") (.type "bool") = some false := kit_ty (by decide +kernel)
theorem kq_NoneType_tuple {K : PySem.W.Frag} : PySem.W.kitOne K (.type "NoneType") (.type "tuple") = some false := kit_ty (by decide +kernel)
theorem kq_str_int {K : PySem.W.Frag} : PySem.W.kitOne K (.type "str") (.type "int") = some false := kit_ty (by decide +kernel)
theorem kq_str_bool {K : PySem.W.Frag} : PySem.W.kitOne K (.type "str") (.type "bool") = some false := kit_ty (by decide +kernel)
theorem kq_str_tuple {K : PySem.W.Frag} : PySem.W.kitOne K (.type "str") (.type "tuple") = some false := kit_ty (by decide +kernel)
theorem kq_list_int {K : PySem.W.Frag} : PySem.W.kitOne K (.type "list") (.type "int") = some false := kit_ty (by decide +kernel)
theorem kq_list_bool {K : PySem.W.Frag} : PySem.W.kitOne K (.type "list") (.type "bool") = some false := kit_ty (by decide +kernel)
theorem kq_list_tuple {K : PySem.W.Frag} : PySem.W.kitOne K (.type "list") (.type "tuple") = some false := kit_ty (by decide +kernel)
theorem kq_dict_int {K : PySem.W.Frag} : PySem.W.kitOne K (.type "dict") (.type "int") = some false := kit_ty (by decide +kernel)
theorem kq_dict_bool {K : PySem.W.Frag} : PySem.W.kitOne K (.type "dict") (.type "bool") = some false := kit_ty (by decide +kernel)
theorem kq_dict_tuple {K : PySem.W.Frag} : PySem.W.kitOne K (.type "dict") (.type "tuple") = some false := kit_ty (by decide +kernel)
theorem kit_own {K : PySem.W.Frag} {D C : Addr} {b : Bool} (h2 : PySem.W.isClsIn K C = true) (h3 : PySem.W.typeIn K (.ref C) = some (.type "type")) (h4 : PySem.W.subIn K (.ref D) (.ref C) = some b) (h5 : PySem.W.subIn K (.ref C) (.ref C) = some true) :
    PySem.W.kitOne K (.ref D) (.ref C) = some b := by
  unfold PySem.W.kitOne
  split
  · rename_i z
    have e : D = C := Value.ref.inj (beq_iff_eq.mp z)
    rw [← h4, e, h5]
  · have e2 : ((PySem.W.clsIn K C).isSome && PySem.W.typeIn K (.ref C) == some (.type "type")) = true := by
      have h2' : (PySem.W.clsIn K C).isSome = true := h2
      rw [h2', h3] <;> rfl
    show (if ((PySem.W.clsIn K C).isSome && PySem.W.typeIn K (.ref C) == some (.type "type")) = true then PySem.W.subIn K (.ref D) (.ref C) else none) = some b
    rw [if_pos e2]
    exact h4
/-! #### the heap's growth -/
theorem same_at {H H' : Hp} {p : Addr} {o : HO} (e : Same H H') (h : H p = some o) : H' p = some o := e _ _ h
theorem same_back {H H1 H2 : Hp} (e : Same H1 H2) (h : Same H H1) : Same H H2 := h.trans e
theorem same_seq {H H' : Hp} {a : Addr} {xs : List V} (e : Same H H') (h : SqL X.K H a xs) : SqL X.K H' a xs := e.seq h
theorem SqL.of_same {K : PySem.W.Frag} {H H' : Hp} {a : Addr} {xs : List V} (h : SqL K H a xs) (e : Same H H') : SqL K H' a xs := e.seq h
theorem look_no {f g : Str} {v : V} (h : (f == g) = false) : List.lookup f [(g, v)] = none := by simp [List.lookup, h]
/-! #### pairs -/
/-- at p stands the pair a, b -/
abbrev Pr (H : Hp) (p : Addr) (a b : Int) : Prop := H p = some (.tup [.int a, .int b])
def rPair (g : Int → Int → V) : List V → Hp → VK → Prop := fun xs H Q => ∃ (p : Addr) (a b : Int), xs = [.ref p] ∧ Pr H p a b ∧ Q (g a b) H
theorem pair_holds {h : Heap} {a b : Int} {its : List Value} (r : Vals [.int a, .int b] its) : PySem.W.HoldAll h its ([a, b] : List Int) := by
  cases r with
  | cons r1 r =>
    cases r with
    | cons r2 r =>
      cases r
      obtain ⟨t1, rfl⟩ := r1
      obtain ⟨t2, rfl⟩ := r2
      exact .cons ⟨_, .int _ _⟩ (.cons ⟨_, .int _ _⟩ .nil)
theorem cMinP (hc : X.calm = true) (hu : X.A.units + 1 < cLine) : CallR X (.builtin "min") (rPair fun a b => .int (min a b)) := by
  intro pins s σ H vs us Q I r h
  obtain ⟨p, a, b, rfl, hp, q⟩ := h
  obtain ⟨its, rv, hl, _⟩ := I.tuple (SqT.of hp)
  rw [Vals.ref1 r]
  obtain ⟨o, h1, h2, h3⟩ := hl
  refine PySem.W.min_tuple_datum (α := Int) (I.ok.hd hc) (x := a) (xs := [b]) ⟨o, h1, h2, h3⟩ (by simpa using pair_holds rv) hu fun i v h' tk hi hv hk => ?_
  obtain ⟨as, ra⟩ := hv
  obtain ⟨t, rfl, _⟩ := reads_int_inv ra
  refine ⟨.int _, H, I.kept hk, ⟨_, rfl⟩, ?_⟩
  have e : PySem.W.minOf a [b] = min a b := by
    show (if decide (b < a) = true then b else a) = min a b
    split <;> simp_all <;> omega
  rw [e]
  exact q
theorem cMaxP (hc : X.calm = true) (hu : X.A.units + 1 < cLine) : CallR X (.builtin "max") (rPair fun a b => .int (max a b)) := by
  intro pins s σ H vs us Q I r h
  obtain ⟨p, a, b, rfl, hp, q⟩ := h
  obtain ⟨its, rv, hl, _⟩ := I.tuple (SqT.of hp)
  rw [Vals.ref1 r]
  obtain ⟨o, h1, h2, h3⟩ := hl
  refine PySem.W.max_tuple_datum (α := Int) (I.ok.hd hc) (x := a) (xs := [b]) ⟨o, h1, h2, h3⟩ (by simpa using pair_holds rv) hu fun i v h' tk hi hv hk => ?_
  obtain ⟨as, ra⟩ := hv
  obtain ⟨t, rfl, _⟩ := reads_int_inv ra
  refine ⟨.int _, H, I.kept hk, ⟨_, rfl⟩, ?_⟩
  have e : PySem.W.maxOf a [b] = max a b := by
    show (if decide (a < b) = true then b else a) = max a b
    split <;> simp_all <;> omega
  rw [e]
  exact q
/-- == of two pairs, in a pair -/
def rPP (g : Bool → Bool) : R2 := fun x y H Q => ∃ (p q : Addr) (a b c d : Int), x = .ref p ∧ y = .ref q ∧ Pr H p a b ∧ Pr H q c d ∧ Q (.bl (g (decide (a = c ∧ b = d)))) H
theorem pair_dp {K : PySem.W.Frag} {H : Hp} {p : Addr} {a b : Int} (h : Pr H p a b) : Dp K H (.ref p) (.tuple [.int a, .int b]) := .tup (SqT.of h) (.cons (.int a) (.cons (.int b) .nil))
theorem pair_shaped (a b : Int) : SeqAt.shaped (.tuple [.int a, .int b]) = true := rfl
theorem pair_eqv (a b c d : Int) : PyData.eqv (.tuple [.int a, .int b]) (.tuple [.int c, .int d]) = decide (a = c ∧ b = d) := by
  simp only [PyData.eqv, PyData.eqvAll]
  by_cases h1 : a = c <;> by_cases h2 : b = d <;> simp [h1, h2]
theorem oEqP (hu : X.A.units + 64 < cLine) : OpR X (compareOp .Eq) (rPP id) := OpR.imp (op_eqD hu) fun x y H Q ⟨p, q, a, b, c, d, h1, h2, h3, h4, k⟩ => by
  subst h1 h2
  refine ⟨_, _, pair_dp h3, pair_dp h4, pair_shaped a b, pair_shaped c d, ?_⟩
  rw [pair_eqv]
  exact k
theorem oNeP (hu : X.A.units + 64 < cLine) : OpR X (compareOp .NotEq) (rPP not) := OpR.imp (op_neD hu) fun x y H Q ⟨p, q, a, b, c, d, h1, h2, h3, h4, k⟩ => by
  subst h1 h2
  refine ⟨_, _, pair_dp h3, pair_dp h4, pair_shaped a b, pair_shaped c d, ?_⟩
  rw [pair_eqv]
  exact k
def rInP (g : Bool → Bool) : R2 := fun x y H Q => ∃ (i : Int) (p : Addr) (a b : Int), x = .int i ∧ y = .ref p ∧ Pr H p a b ∧ Q (.bl (g (decide (a = i ∨ b = i)))) H
theorem inV_pair (i a b : Int) : inV (.int i) [.int a, .int b] = decide (a = i ∨ b = i) := by
  show ((a == i) || ((b == i) || false)) = _
  by_cases h1 : a = i <;> by_cases h2 : b = i <;> simp [h1, h2]
theorem oInP : OpR X (compareOp .In) (rInP id) := OpR.imp op_in_seq fun x y H Q ⟨i, p, a, b, h1, h2, h3, k⟩ => by
  subst h1 h2
  refine ⟨p, _, rfl, .inr (SqT.of h3), rfl, rfl, ?_⟩
  rw [inV_pair]
  exact k
theorem oNotInP : OpR X (compareOp .NotIn) (rInP not) := OpR.imp op_notIn_seq fun x y H Q ⟨i, p, a, b, h1, h2, h3, k⟩ => by
  subst h1 h2
  refine ⟨p, _, rfl, .inr (SqT.of h3), rfl, rfl, ?_⟩
  rw [inV_pair]
  exact k
end
end TH


namespace TW
open PySem PySem.Spec PyProof.Rows L2 TH
/-- a thing of some kind -/
inductive Th (H : Hp) : V → Prop where
  | non : Th H .non
  | str (x : Str) : Th H (.str x)
  | bl (b : Bool) : Th H (.bl b)
  | int (i : Int) : Th H (.int i)
  | lst {p : Addr} {xs : List V} (h : H p = some (.lst xs)) : Th H (.ref p)
  | tup {p : Addr} {xs : List V} (h : H p = some (.tup xs)) : Th H (.ref p)
  | dk {p : Addr} {kvs : List (Key × V)} (h : H p = some (.dK kvs)) : Th H (.ref p)
theorem Th.mono {H H' : Hp} {v : V} (e : Same H H') (t : Th H v) : Th H' v := by
  cases t with
  | non => exact .non
  | str x => exact .str x
  | bl b => exact .bl b
  | int i => exact .int i
  | lst h => exact .lst (e _ _ h)
  | tup h => exact .tup (e _ _ h)
  | dk h => exact .dk (e _ _ h)
/-- a whole number -/
def wh : V → Bool
  | .int _ => true
  | _ => false
/-- whether it is a pair of whole numbers -/
inductive PairK (H : Hp) : V → Bool → Prop where
  | non : PairK H .non false
  | str (x : Str) : PairK H (.str x) false
  | bl (b : Bool) : PairK H (.bl b) false
  | int (i : Int) : PairK H (.int i) false
  | lst {p : Addr} {xs : List V} (h : H p = some (.lst xs)) : PairK H (.ref p) false
  | dk {p : Addr} {kvs : List (Key × V)} (h : H p = some (.dK kvs)) : PairK H (.ref p) false
  | tupn {p : Addr} {xs : List V} (h : H p = some (.tup xs)) (n : xs.length ≠ 2) : PairK H (.ref p) false
  | tup2 {p : Addr} {u v : V} (h : H p = some (.tup [u, v])) (hu : Th H u) (hv : Th H v) : PairK H (.ref p) (wh u && wh v)
theorem PairK.mono {H H' : Hp} {v : V} {b : Bool} (e : Same H H') (t : PairK H v b) : PairK H' v b := by
  cases t with
  | non => exact .non
  | str x => exact .str x
  | bl b => exact .bl b
  | int i => exact .int i
  | lst h => exact .lst (e _ _ h)
  | dk h => exact .dk (e _ _ h)
  | tupn h n => exact .tupn (e _ _ h) n
  | tup2 h hu hv => exact .tup2 (e _ _ h) (hu.mono e) (hv.mono e)
end TW

namespace TW
open PySem PySem.Spec PyProof.Rows L2 TH
/-- a whole number from lo on; two heaps -/
def okN (lo : Int) (v : V) : Prop := ∃ i, v = .int i ∧ lo ≤ i
def okH (H : Hp) (v : V) : Prop := ∃ (p : Addr) (x y : Int), v = .ref p ∧ Pr H p x y ∧ 0 ≤ x ∧ 0 ≤ y
theorem pair_one {H : Hp} {p : Addr} {x y : Int} {b : Bool} (k : PairK H (.ref p) b) (h : Pr H p x y) : b = true := by
  cases k with
  | lst h' => rw [h] at h'; cases h'
  | dk h' => rw [h] at h'; cases h'
  | tupn h' n => rw [h] at h'; cases h'; exact absurd rfl n
  | tup2 h' hu hv => rw [h] at h'; cases h'; rfl
theorem pair_two {H : Hp} {v : V} (k : PairK H v true) : ∃ (p : Addr) (x y : Int), v = .ref p ∧ Pr H p x y := by
  generalize hb : true = b at k
  cases k with
  | @tup2 p u w h hu hv =>
    cases hu <;> cases hv <;> first | (exact ⟨_, _, _, rfl, h⟩) | (cases hb)
  | _ => cases hb
end TW

namespace TW
open PySem PySem.Spec PyProof.Rows L2 TH
/-- a comprehension over a list, each of its items True -/
theorem lc_true {K : PySem.W.Frag} {a : Addr} {xs : List V} {te : TE} {vs : List Nat} {j : Nat} {σ : L2.St} {H1 : Hp} {D : Addr} {Qd : Hp → Prop} (hD : H1 D = none) (HL : SqL K H1 a xs) (hlen : xs.length ≤ 1000)
    (hw : ∀ x, wipe ((wipe σ vs).set j (some x)) vs = wipe σ vs)
    (hs : ∀ x H (Q : VK), x ∈ xs → Same H1 H → (∀ H', Same H H' → Q (.bl true) H') → te ((wipe σ vs).set j (some x)) H Q)
    (hd : ∀ H, Same H1 H → H D = some (.lst ((List.replicate xs.length true).map V.bl)) → Qd H) :
    ∃ W : Nat → Nat → Hp → Prop, (∃ m, W 0 m (upd H1 D (.lst []))) ∧ ∀ i m H, W i m H →
      ((Itl K a).stop i H ∧ Qd H) ∨ ((Itl K a).go i H ∧ ∃ Nx : Hp → Prop, (∀ H', Nx H' → ∃ m', m' < m ∧ W (i + 1) m' H') ∧ ∀ x H', (Itl K a).yld i H x H' → gName j x (wipe σ vs) H' fun σ2 H2 => wipe σ2 vs = wipe σ vs ∧ tYes σ2 H2 fun b H3 =>
        if b = true then te σ2 H3 fun y H4 => ∃ acc, H4 D = some (.lst acc) ∧ acc.length < sizeLine ∧ Nx (upd H4 D (.lst (acc ++ [y]))) else Nx H3) := by
  refine lc_list (K := K) (a := a) (xs := xs) (fun i H => i ≤ xs.length ∧ Same H1 H ∧ H D = some (.lst ((List.replicate i true).map V.bl))) ⟨Nat.zero_le _, Same.new hD, upd_same⟩ (fun i H _ h => h.2.1.seq HL) (fun i x H hx h => ?_) (fun H h => hd H h.2.1 h.2.2)
  obtain ⟨hi, e, hl⟩ := h
  have hi2 := (List.getElem?_eq_some_iff.mp hx).1
  refine ⟨hw x, ?_⟩
  show te ((wipe σ vs).set j (some x)) H _
  refine hs x H _ (List.mem_of_getElem? hx) e fun H' e' => ⟨_, e' D _ hl, ?_, hi2, fun b o hb => ?_, ?_⟩
  · rw [List.length_map, List.length_replicate]
    exact Nat.lt_of_le_of_lt (Nat.le_trans hi hlen) (by decide)
  · have nb : b ≠ D := fun z => by rw [z, hD] at hb; cases hb
    rw [upd_ne nb]
    exact e' b o (e b o hb)
  · rw [upd_same, List.replicate_succ', List.map_append]
    rfl
theorem all_rep (n : Nat) : (List.replicate n true).all id = true := by
  rw [List.all_eq_true]
  intro x hx
  rw [List.eq_of_mem_replicate hx]
  rfl
theorem bd_of {a : Nat} {i j : Int} (hj : Bd a j) (h1 : -(2 * j) ≤ i) (h2 : i ≤ j) : Bd (a + 1) i := ⟨by
  have h := hj.out
  have e : 2 ^ (a + 1) = 2 ^ a + 2 ^ a := by omega
  omega⟩
def rCatA : R2 := fun x y H Q => ∃ l b xs zs, x = .ref l ∧ y = .ref b ∧ H l = some (.lst xs) ∧ H b = some (.lst zs) ∧ xs.length + zs.length ≤ 1000 ∧ ∀ p H2, H p = none → Same H H2 → H2 p = some (.lst (xs ++ zs)) → Q (.ref p) H2
theorem oCat {X : Cx} : OpR X (binaryOp .Add) rCatA := OpR.imp op_cat fun x y H Q ⟨l, b, xs, zs, h1, h2, h3, h4, h5, q⟩ => ⟨l, b, xs, zs, h1, h2, h3, h4, Nat.le_trans h5 (by decide), fun p hp => q p _ hp (Same.new hp) upd_same⟩
end TW
/-! ### a def called within an except suite with the exception that is held there: its body is walked with that very object pinned -/
namespace TH
open PySem PySem.Spec PyProof.Rows L2
theorem run_pin {X : Cx} {pins : List (Addr × Obj)} {σ : L2.St} {H : Hp} {s : Shared} {p : Addr × Obj} {k : Nat} {x qual : Str} {st : Stmt} {f : Addr} {fd : FuncData} {N ps : List Str} {us : List Value} {vs : List V} {Q : VK} {t : TS} (hp : p ∈ X.pn)
    (F : Fun X.K x qual st f fd) (S : FnScope N ps (defScope st)) (hr : L2H.RoomH (k + 1) X.A) (hb : Binds X.K fd ps []) (I : Inv X pins σ H s) (r : Vals vs us) (hl : vs.length = ps.length)
    (ht : ∀ cdv : Value, PSs (L2H.cxH CX0 X.prog X.w X.K X.mg X.base N qual (defScope st) f cdv X.A X.stack s H E0 p) (defBody st) t) (hq : t { nx := fun _ H' => Q .non H', rt := Q } (L2.start N vs) H) :
    wpAny (model X.prog X.w) X.A (call (.ref f) us) (EP X pins σ Q) X.xe s := by
  obtain ⟨oc, od, kV, doc, pm, an, cdv, ct, osl, rfl, lk, hcd⟩ := F.ex
  have hus : us.length = ps.length := r.length.symm.trans hl
  have bt := hb s us I.kIn ((congrArg List.length (List.append_nil us)).trans hus)
  rw [List.append_nil] at bt
  obtain ⟨g1, g2, g3, g4, g5⟩ := I.pin p (List.mem_append_left _ hp)
  have pk : L2H.PinOk X.stack H s p := by
    refine ⟨g1, g2, fun z => ?_, g5⟩
    rcases List.mem_cons.mp (I.stkSub p.1 z) with e | e
    · exact g3 e
    · exact g4 e
  have kinds : ∀ y ∈ ps.zip us, (defScope st).names.lookup y.1 = some .local ∨ ((defScope st).names.lookup y.1 = some .cell ∧ ((cellsFrom (s.heap.objs.size + 1) (defScope st).names []).lookup y.1).isSome = true) := by
    intro y hy
    rcases S.par y.1 (List.of_mem_zip (show (y.1, y.2) ∈ ps.zip us from hy)).1 with z | z
    · exact .inl z
    · exact .inr ⟨z, PySem.W.cellsFrom_some _ _ _ (.inl z)⟩
  refine wpAny_call (codeAny_mono (R := CR CX0 X.stack X.prog X.w H s Q E0) (codeAny_call_function hr.depth (I.kIn _ _ lk) rfl S.co S.gen rfl (PySem.W.codeRec_of I.kIn hcd) (bt _ _ _ _ ?_)) fun rr s' hh => ?_)
  · refine wpAny_newFunctionEnv_cells S.kind kinds fun env he s1 ic => ?_
    subst he
    refine ⟨I.nolimit.keeps ic.toInCall.keep, codeAny_func ?_⟩
    have J := L2H.inv_startH (CX := CX0) (E := E0) (cd := cdv) (f := f) (qual := qual) S pk I.env0 hl r ic
    refine wpAny_mono ((ht cdv).run [] s1 (L2.start N vs) H _ J hq) (fun fl s2 h2 => ?_) fun e s2 h2 => h2
    cases fl with
    | ret u =>
      obtain ⟨v, σ2, H2, J2, rv, q2⟩ := h2
      exact ⟨v, H2, J2.os, J2.bare, J2.base, J2.hok, rv, q2⟩
    | next =>
      obtain ⟨σ2, H2, J2, q2⟩ := h2
      exact ⟨.non, H2, J2.os, J2.bare, J2.base, J2.hok, rfl, q2⟩
    | brk =>
      obtain ⟨_, _, _, z⟩ := h2
      exact z.elim
    | cont =>
      obtain ⟨_, _, _, z⟩ := h2
      exact z.elim
  · cases rr with
    | error e => exact hh.elim
    | ok fl =>
      cases fl with
      | ret u => exact I.after hh
      | next => exact hh.elim
      | brk => exact hh.elim
      | cont => exact hh.elim
def tPin (N ps : List Str) (t : TA) (t0 : TS) : TE := fun σ H Q => t σ H fun vs H1 => vs.length = ps.length ∧ t0 { nx := fun _ H' => Q .non H', rt := Q } (L2.start N vs) H1
theorem pe_pin {X : Cx} {p : Addr × Obj} {k : Nat} {x qual : Str} {st : Stmt} {f : Addr} {fd : FuncData} {N ps : List Str} {t0 : TS} {e : Expr} {es : List Expr} {t : TA} {q pos : Pos} (hp : p ∈ X.pn) (F : Fun X.K x qual st f fd) (S : FnScope N ps (defScope st)) (hr : L2H.RoomH (k + 1) X.A)
    (hg : Gl X x) (hm : X.mg x = some (.ref f)) (hb : Binds X.K fd ps []) (ht : ∀ (cdv : Value) (s : Shared) (H : Hp), PSs (L2H.cxH CX0 X.prog X.w X.K X.mg X.base N qual (defScope st) f cdv X.A X.stack s H E0 p) (defBody st) t0) (ha : PA X (e :: es) t)
    (hdb : (x == ("__debug__" : Str)) = false := by decide) (he : starEach (e :: es) X.env = (false, eval e X.env) :: starEach es X.env := by rfl) (hpl : (backTo pos (starEach es X.env)).any (·.1) = false := by rfl) :
    PE X (.Call (.Name x q) (e :: es) [] pos) (tPin N ps t t0) := by
  refine ⟨fun pins s σ H Q I h => wpAny_Call_Name_kw (ld_glob I hg hm ?_ hdb)⟩
  refine PySem.W.callWith_K (h₀ := X.base) I.ok.mod.kin F.kp (thn (ha.run pos pins s σ H _ I h) fun us s1 hh => ?_) he hpl
  obtain ⟨vs, H1, I1, r, hl, q⟩ := hh
  exact ⟨I1.kIn, run_pin hp F S hr hb I1 r hl (fun cdv => ht cdv s1 H1) q⟩
/-- isinstance(e, c), e the exception that is pinned -/
theorem call_isP {X : Cx} {a D : Addr} {oe : Obj} (hp : (a, oe) ∈ X.pn) (C : ExcC X.K D) (hz : Zc (.ref D) none oe) (hf : ∃ vs, oe.data = .fields vs) : CallR X (.builtin "isinstance") (rIsE X.K D a) := by
  intro pins s σ H xs us Q I r h
  obtain ⟨c, cv, b, rfl, hcv, e, q⟩ := h
  obtain ⟨u1, u2, rfl, r1, r2⟩ := vals2 r
  cases r1
  have ec := hcv _ r2
  subst ec
  have hg := (I.pin (a, oe) (List.mem_append_left _ hp)).1
  obtain ⟨vs, hv⟩ := hf
  obtain ⟨oc, od, oda, osl⟩ := oe
  obtain ⟨h1, h2⟩ := hz
  dsimp only at h1 h2 hv
  subst h1 h2 hv
  have J : PySem.W.InstAt s.heap a ⟨.ref D, none, .fields vs, osl⟩ D none := ⟨hg, rfl, rfl, trivial⟩
  exact PySem.W.kia_one (PySem.W.handS_kitx_exc C.hg C.hk C.hs C.hd C.ha C.hn C.ht C.hm) I.kIn J e (fun z => nomatch z) fun tk => ⟨.bl b, H, I.kept (t' := tk) fun _ _ z => z, rfl, q⟩
end TH

namespace TW
open PySem PySem.Spec PyProof.Rows L2 TH
theorem okH_back {H H' : Hp} {v : V} {b : Bool} (k : PairK H v b) (e : Same H H') (h : okH H' v) : okH H v := by
  obtain ⟨p, x, y, rfl, hp, hx, hy⟩ := h
  have hp : H' p = some (.tup [.int x, .int y]) := hp
  cases k with
  | lst h' => rw [e _ _ h'] at hp; cases hp
  | dk h' => rw [e _ _ h'] at hp; cases hp
  | tupn h' n => rw [e _ _ h'] at hp; cases hp; exact absurd rfl n
  | tup2 h' _ _ => rw [e _ _ h'] at hp; cases hp; exact ⟨_, _, _, rfl, h', hx, hy⟩
theorem pr_inj {H : Hp} {p : Addr} {x y x' y' : Int} (h : Pr H p x y) (h' : Pr H p x' y') : x = x' ∧ y = y' := by
  have z := (show H p = some _ from h).symm.trans h'
  cases z
  exact ⟨rfl, rfl⟩
end TW

namespace TH
open PySem PySem.Spec PyProof.Rows L2
def tOr (t u : TE) : TE := fun σ H Q => t σ H Q ∨ u σ H Q
theorem pe_orT {X : Cx} {e : Expr} {t u : TE} (h1 : PE X e t) (h2 : PE X e u) : PE X e (tOr t u) := pe_or2 h1 h2
/-- a call of a local name that holds the def at f, what it lets out goes with the slots -/
def tCallLS (i : Nat) (f : Addr) (sp : Sp) (E : L2.St → XK) (t : TA) : TE := fun σ H Q => σ[i]? = some (some (.ref f)) ∧ t σ H fun vs H1 => sp vs H1 Q (E σ)
theorem pe_callLS {X : Cx} {CX : CXT} {k i : Nat} {f : Addr} {fd : FuncData} {ps : List Str} {sp : Sp} {E : L2.St → XK} {x : Str} {p pos : Pos} {e : Expr} {es : List Expr} {t : TA} (F : FnOk X.prog X.w X.K X.mg X.base CX k f fd ps sp) (hr : Room k X.A) (hN : X.N[i]? = some x) (hv : Vis X.env.scope x) (hk : PySem.W.keepIn X.K (.ref f) = true) (hb : Binds X.K fd ps []) (hx : ∀ σ, PassesAt CX X σ (E σ)) (ha : PA X (e :: es) t)
    (hdb : (x == ("__debug__" : Str)) = false := by decide) (hcd : (x == ("__classdict__" : Str)) = false := by decide)
    (he : starEach (e :: es) X.env = (false, eval e X.env) :: starEach es X.env := by rfl) (hpl : (backTo pos (starEach es X.env)).any (·.1) = false := by rfl) : PE X (.Call (.Name x p) (e :: es) [] pos) (tCallLS i f sp E t) := by
  refine ⟨fun pins s σ H Q I h => ?_⟩
  obtain ⟨hs, ht⟩ := h
  refine wpAny_Call_Name_kw (thn ((pe_var (pos := p) hN hv hdb hcd).run pins s σ H (fun v H1 => v = .ref f ∧ H1 = H) I ⟨.ref f, hs, rfl, rfl⟩) fun u s1 ⟨v, H1, I1, r1, q1⟩ => ?_)
  obtain ⟨rfl, rfl⟩ := q1
  cases r1
  refine PySem.W.callWith_K (h₀ := X.base) I.ok.mod.kin hk (thn (ha.run pos pins s1 σ _ _ I1 ht) fun us s2 ⟨vs, H2, I2, r, q⟩ => ⟨I2.kIn, ?_⟩) he hpl
  exact run_fnS F hr hb (hx σ) I2 r q
/-- isinstance of the exception that is pinned, whatever its class -/
def rIsQ (K : PySem.W.Frag) (a : Addr) (cls : Value) (d : Option Addr) : List V → Hp → VK → Prop := fun xs H Q => ∃ D, cls = .ref D ∧ d = none ∧ ExcC K D ∧ rIsE K D a xs H Q
theorem call_isQ {X : Cx} {a : Addr} {oe : Obj} {cls : Value} {d : Option Addr} (hp : (a, oe) ∈ X.pn) (hz : Zc cls d oe) (hf : ∃ vs, oe.data = .fields vs) : CallR X (.builtin "isinstance") (rIsQ X.K a cls d) := by
  intro pins s σ H xs us Q I r h
  obtain ⟨D, e1, e2, C, h⟩ := h
  subst e1 e2
  exact call_isP hp C hz hf pins s σ H xs us Q I r h
theorem kit_type {K : PySem.W.Frag} {D : Addr} {n : String} {b : Bool} (h1 : PySem.W.kitMeta n = true) (h : PySem.W.subIn K (.ref D) (.type n) = some b) : PySem.W.kitOne K (.ref D) (.type n) = some b := by
  show (if ((Value.ref D) == (Value.type n)) = true then some true else PySem.W.kitCls K (.ref D) (.type n)) = some b
  have e : ((Value.ref D) == (Value.type n)) = false := rfl
  rw [e, if_neg Bool.false_ne_true]
  show (if PySem.W.kitMeta n = true then PySem.W.subIn K (.ref D) (.type n) else none) = some b
  rw [if_pos h1]
  exact h
/-- what is told of the k-th kind -/
def due (k : Nat) : List V := [.bl (k == 0), .bl (k == 1), .bl (k == 2), .bl (k == 3), .bl true]
theorem due_dp {K : PySem.W.Frag} {H : Hp} {p : Addr} {k : Nat} (h : H p = some (.lst (due k))) : Dp K H (.ref p) (.list [.bool (k == 0), .bool (k == 1), .bool (k == 2), .bool (k == 3), .bool true]) := .lst (SqL.of h) (.cons (.bl _) (.cons (.bl _) (.cons (.bl _) (.cons (.bl _) (.cons (.bl _) .nil)))))
theorem due_eqv (k : Nat) : PyData.eqv (.list [.bool (k == 0), .bool (k == 1), .bool (k == 2), .bool (k == 3), .bool true]) (.list [.bool (k == 0), .bool (k == 1), .bool (k == 2), .bool (k == 3), .bool true]) = true := by
  rw [PyData.eqv]
  exact PySem.SeqAt.eqvAll_refl _ rfl
def rDue : R2 := fun x y H Q => ∃ p q k, x = .ref p ∧ y = .ref q ∧ H p = some (.lst (due k)) ∧ H q = some (.lst (due k)) ∧ Q (.bl true) H
theorem oEqDue {X : Cx} (hu : X.A.units + 64 < cLine) : OpR X (compareOp .Eq) rDue := OpR.imp (op_eqD hu) fun x y H Q ⟨p, q, k, h1, h2, h3, h4, z⟩ => by
  subst h1 h2
  refine ⟨_, _, due_dp h3, due_dp h4, rfl, rfl, ?_⟩
  rw [due_eqv]
  exact z
/-- ten times False -/
def fal : List V := List.replicate 10 (.bl false)
theorem fal_dp {K : PySem.W.Frag} {H : Hp} {p : Addr} (h : H p = some (.lst fal)) : Dp K H (.ref p) (.list (List.replicate 10 (.bool false))) := .lst (SqL.of h) (by
  show DpAll K H [.bl false, .bl false, .bl false, .bl false, .bl false, .bl false, .bl false, .bl false, .bl false, .bl false] [.bool false, .bool false, .bool false, .bool false, .bool false, .bool false, .bool false, .bool false, .bool false, .bool false]
  repeat (first | exact .nil | refine .cons (.bl _) ?_))
theorem fal_eqv : PyData.eqv (.list (List.replicate 10 (.bool false))) (.list (List.replicate 10 (.bool false))) = true := by
  rw [PyData.eqv]
  exact PySem.SeqAt.eqvAll_refl _ rfl
def rFal : R2 := fun x y H Q => ∃ p q, x = .ref p ∧ y = .ref q ∧ H p = some (.lst fal) ∧ H q = some (.lst fal) ∧ Q (.bl false) H
theorem oNeFal {X : Cx} (hu : X.A.units + 64 < cLine) : OpR X (compareOp .NotEq) rFal := OpR.imp (op_neD hu) fun x y H Q ⟨p, q, h1, h2, h3, h4, z⟩ => by
  subst h1 h2
  refine ⟨_, _, fal_dp h3, fal_dp h4, rfl, rfl, ?_⟩
  rw [fal_eqv]
  exact z
def rRepF : R2 := fun x y H Q => ∃ l, x = .ref l ∧ y = .int 10 ∧ H l = some (.lst [.bl false]) ∧ ∀ p H2, H p = none → Same H H2 → H2 p = some (.lst fal) → Q (.ref p) H2
theorem oRepF {X : Cx} : OpR X (binaryOp .Mult) rRepF := OpR.imp op_rep fun x y H Q ⟨l, h1, h2, h3, q⟩ => ⟨l, 10, _, h1, h2, h3, by decide, by decide, by decide, fun p hp => q p _ hp (Same.new hp) upd_same⟩
def rSlA (K : PySem.W.Frag) : V → Option Int → Option Int → Hp → VK → Prop := fun x lo hi H Q => ∃ a xs, x = .ref a ∧ H a = some (.lst xs) ∧ ∀ p H2, H p = none → Same H H2 → H2 p = some (.lst (cutV xs lo hi)) → Q (.ref p) H2
theorem SlR.imp' {X : Cx} {r r' : V → Option Int → Option Int → Hp → VK → Prop} (h : SlR X r) (w : ∀ x lo hi H Q, r' x lo hi H Q → r x lo hi H Q) : SlR X r' := fun pins s σ H x v vl vu lo hi sl Q I rx hs pl pu q => h pins s σ H x v vl vu lo hi sl Q I rx hs pl pu (w _ _ _ _ _ q)
theorem slA {X : Cx} : SlR X (rSlA X.K) := SlR.imp' sl_list fun x lo hi H Q ⟨a, xs, h1, h2, q⟩ => ⟨a, xs, h1, SqL.of h2, fun p hp => q p _ hp (Same.new hp) upd_same⟩
def tDNewA : TE := fun _ H Q => ∀ p H2, H p = none → Same H H2 → H2 p = some (.dK []) → Q (.ref p) H2
theorem pe_dnewA {X : Cx} {pos : Pos} : PE X (.Dict [] [] pos) tDNewA := PE.imp pe_dnewK fun σ H Q hq p hp => hq p _ hp (Same.new hp) upd_same
/-- a comprehension over a list, each of its items v -/
theorem lc_const {K : PySem.W.Frag} {v : V} {a : Addr} {xs : List V} {te : TE} {vs : List Nat} {j : Nat} {σ : L2.St} {H1 : Hp} {D : Addr} {Qd : Hp → Prop} (hD : H1 D = none) (HL : SqL K H1 a xs) (hlen : xs.length ≤ 1000)
    (hw : ∀ x, wipe ((wipe σ vs).set j (some x)) vs = wipe σ vs)
    (hs : ∀ x H (Q : VK), x ∈ xs → Same H1 H → (∀ H', Same H H' → Q v H') → te ((wipe σ vs).set j (some x)) H Q)
    (hd : ∀ H, Same H1 H → H D = some (.lst (List.replicate xs.length v)) → Qd H) :
    ∃ W : Nat → Nat → Hp → Prop, (∃ m, W 0 m (upd H1 D (.lst []))) ∧ ∀ i m H, W i m H →
      ((Itl K a).stop i H ∧ Qd H) ∨ ((Itl K a).go i H ∧ ∃ Nx : Hp → Prop, (∀ H', Nx H' → ∃ m', m' < m ∧ W (i + 1) m' H') ∧ ∀ x H', (Itl K a).yld i H x H' → gName j x (wipe σ vs) H' fun σ2 H2 => wipe σ2 vs = wipe σ vs ∧ tYes σ2 H2 fun b H3 =>
        if b = true then te σ2 H3 fun y H4 => ∃ acc, H4 D = some (.lst acc) ∧ acc.length < sizeLine ∧ Nx (upd H4 D (.lst (acc ++ [y]))) else Nx H3) := by
  refine lc_list (K := K) (a := a) (xs := xs) (fun i H => i ≤ xs.length ∧ Same H1 H ∧ H D = some (.lst (List.replicate i v))) ⟨Nat.zero_le _, Same.new hD, upd_same⟩ (fun i H _ h => h.2.1.seq HL) (fun i x H hx h => ?_) (fun H h => hd H h.2.1 h.2.2)
  obtain ⟨hi, e, hl⟩ := h
  have hi2 := (List.getElem?_eq_some_iff.mp hx).1
  refine ⟨hw x, ?_⟩
  show te ((wipe σ vs).set j (some x)) H _
  refine hs x H _ (List.mem_of_getElem? hx) e fun H' e' => ⟨_, e' D _ hl, ?_, hi2, fun b o hb => ?_, ?_⟩
  · rw [List.length_replicate]
    exact Nat.lt_of_le_of_lt (Nat.le_trans hi hlen) (by decide)
  · have nb : b ≠ D := fun z => by rw [z, hD] at hb; cases hb
    rw [upd_ne nb]
    exact e' b o (e b o hb)
  · rw [upd_same, List.replicate_succ']
/-- a comprehension over a list, each of its items a new tuple -/
theorem lc_tups {K : PySem.W.Frag} (f : V → List V) {a : Addr} {xs : List V} {te : TE} {vs : List Nat} {j : Nat} {σ : L2.St} {H1 : Hp} {D : Addr} {Qd : Hp → Prop} (hD : H1 D = none) (HL : SqL K H1 a xs) (hlen : xs.length ≤ 1000)
    (hw : ∀ x, wipe ((wipe σ vs).set j (some x)) vs = wipe σ vs)
    (hs : ∀ x H (Q : VK), x ∈ xs → Same H1 H → (∀ p H', Same H H' → H' p = some (.tup (f x)) → Q (.ref p) H') → te ((wipe σ vs).set j (some x)) H Q)
    (hd : ∀ H ys, Same H1 H → H D = some (.lst ys) → ys.length = xs.length → (∀ y ∈ ys, ∃ x ∈ xs, ∃ p, y = .ref p ∧ H p = some (.tup (f x))) → Qd H) :
    ∃ W : Nat → Nat → Hp → Prop, (∃ m, W 0 m (upd H1 D (.lst []))) ∧ ∀ i m H, W i m H →
      ((Itl K a).stop i H ∧ Qd H) ∨ ((Itl K a).go i H ∧ ∃ Nx : Hp → Prop, (∀ H', Nx H' → ∃ m', m' < m ∧ W (i + 1) m' H') ∧ ∀ x H', (Itl K a).yld i H x H' → gName j x (wipe σ vs) H' fun σ2 H2 => wipe σ2 vs = wipe σ vs ∧ tYes σ2 H2 fun b H3 =>
        if b = true then te σ2 H3 fun y H4 => ∃ acc, H4 D = some (.lst acc) ∧ acc.length < sizeLine ∧ Nx (upd H4 D (.lst (acc ++ [y]))) else Nx H3) := by
  refine lc_list (K := K) (a := a) (xs := xs) (fun i H => i ≤ xs.length ∧ Same H1 H ∧ ∃ ys, H D = some (.lst ys) ∧ ys.length = i ∧ ∀ y ∈ ys, ∃ x ∈ xs, ∃ p, y = .ref p ∧ H p = some (.tup (f x))) ⟨Nat.zero_le _, Same.new hD, [], upd_same, rfl, fun y hy => nomatch hy⟩ (fun i H _ h => h.2.1.seq HL) (fun i x H hx h => ?_) (fun H h => ?_)
  · obtain ⟨hi, e, ys, hl, hn, hy⟩ := h
    have hi2 := (List.getElem?_eq_some_iff.mp hx).1
    refine ⟨hw x, ?_⟩
    show te ((wipe σ vs).set j (some x)) H _
    refine hs x H _ (List.mem_of_getElem? hx) e fun p H' e' hp => ⟨_, e' D _ hl, ?_, hi2, fun b o hb => ?_, _, upd_same, ?_, fun y hm => ?_⟩
    · exact Nat.lt_of_le_of_lt (Nat.le_trans (hn ▸ hi) hlen) (by decide)
    · have nb : b ≠ D := fun z => by rw [z, hD] at hb; cases hb
      rw [upd_ne nb]
      exact e' b o (e b o hb)
    · rw [List.length_append, hn]
      rfl
    · have keep : ∀ (q : Addr) (zs : List V), H' q = some (.tup zs) → upd H' D (.lst (ys ++ [.ref p])) q = some (.tup zs) := fun q zs hq => by
        have nb : q ≠ D := fun z => by
          rw [z, e' D _ hl] at hq
          cases hq
        rw [upd_ne nb]
        exact hq
      rcases List.mem_append.mp hm with hm | hm
      · obtain ⟨x0, h0, q, hq, hH⟩ := hy y hm
        exact ⟨x0, h0, q, hq, keep q _ (e' q _ hH)⟩
      · rw [List.mem_singleton.mp hm]
        exact ⟨x, List.mem_of_getElem? hx, p, rfl, keep p _ hp⟩
  · obtain ⟨hi, e, ys, hl, hn, hy⟩ := h
    exact hd H ys e hl hn hy
end TH

namespace TW
open PySem PySem.Spec PyProof.Rows L2 TH
/-- the list of what is due -/
def Du (H : Hp) (du : Addr) : Prop := ∃ p0 p1 p2 p3 : Addr, H du = some (.lst [.ref p0, .ref p1, .ref p2, .ref p3]) ∧ H p0 = some (.lst (due 0)) ∧ H p1 = some (.lst (due 1)) ∧ H p2 = some (.lst (due 2)) ∧ H p3 = some (.lst (due 3))
theorem Du.mono {H H' : Hp} {du : Addr} (e : Same H H') (h : Du H du) : Du H' du := by
  obtain ⟨p0, p1, p2, p3, h, h0, h1, h2, h3⟩ := h
  exact ⟨p0, p1, p2, p3, e _ _ h, e _ _ h0, e _ _ h1, e _ _ h2, e _ _ h3⟩
/-- a list of at most 30 things of the kind P -/
def LstP (P : Hp → V → Prop) (H : Hp) (p : Addr) : Prop := ∃ ys, H p = some (.lst ys) ∧ ys.length ≤ 30 ∧ ∀ y ∈ ys, P H y
theorem LstP.mono {P : Hp → V → Prop} (hP : ∀ H H' v, Same H H' → P H v → P H' v) {H H' : Hp} {p : Addr} (e : Same H H') (h : LstP P H p) : LstP P H' p := by
  obtain ⟨ys, h, n, z⟩ := h
  exact ⟨ys, e _ _ h, n, fun y hy => hP _ _ _ e (z y hy)⟩
/-- a strange thing: no whole number from 0 on -/
def Sg (H : Hp) (v : V) : Prop := Th H v ∧ ∀ i, v = .int i → i < 0
theorem Sg.mono (H H' : Hp) (v : V) (e : Same H H') (h : Sg H v) : Sg H' v := ⟨h.1.mono e, h.2⟩
theorem Sg.no {H : Hp} {v : V} (h : Sg H v) {lo : Int} (h0 : 0 ≤ lo) : ¬ okN lo v := fun ⟨i, e, hi⟩ => by
  have := h.2 i e
  omega
/-- no two heaps -/
def Nh (H : Hp) (v : V) : Prop := ∃ b, PairK H v b ∧ ¬ okH H v
theorem Nh.mono (H H' : Hp) (v : V) (e : Same H H') (h : Nh H v) : Nh H' v := by
  obtain ⟨b, k, n⟩ := h
  exact ⟨b, k.mono e, fun z => n (okH_back k e z)⟩
/-- no pair of whole numbers -/
def Np (H : Hp) (v : V) : Prop := PairK H v false
theorem Np.mono (H H' : Hp) (v : V) (e : Same H H') (h : Np H v) : Np H' v := PairK.mono e h
theorem Np.nh {H : Hp} {v : V} (h : Np H v) : Nh H v := ⟨false, h, fun ⟨p, x, y, e, hp, _, _⟩ => by
  subst e
  cases pair_one h hp⟩
/-- none of the takings of (5, 7) -/
def Tk (H : Hp) (v : V) : Prop := ∃ r i j, v = .ref r ∧ Pr H r i j ∧ ¬ Legal 2 5 7 i j
theorem Tk.mono (H H' : Hp) (v : V) (e : Same H H') (h : Tk H v) : Tk H' v := by
  obtain ⟨r, i, j, h1, h2, h3⟩ := h
  exact ⟨r, i, j, h1, e _ _ h2, h3⟩
/-- the strange things: the first seven of them are no whole numbers -/
def Stg (H : Hp) (st : Addr) : Prop := ∃ xs, H st = some (.lst xs) ∧ xs.length = 9 ∧ (∀ v ∈ xs, Sg H v) ∧ ∀ v ∈ xs.take 7, wh v = false
theorem Stg.mono {H H' : Hp} {st : Addr} (e : Same H H') (h : Stg H st) : Stg H' st := by
  obtain ⟨xs, h, n, z, y⟩ := h
  exact ⟨xs, e _ _ h, n, fun v hv => (z v hv).mono _ _ _ e, y⟩
theorem cut7 {xs : List V} (n : xs.length = 9) : cutV xs none (some 7) = xs.take 7 := by
  unfold cutV
  rw [show HT.sIx xs.length xs.length (some 7) = min 7 xs.length from HT.sIx_nat _ _ 7, HT.sIx_none, List.drop_zero, n]
  rfl
theorem pair_left {H : Hp} {p : Addr} {x : V} {j : Int} (h : H p = some (.tup [x, .int j])) (hx : Sg H x) : Nh H (.ref p) := ⟨_, .tup2 h hx.1 (.int _), fun ⟨p', a, b, e, hp, ha, _⟩ => by
  cases e
  have z := h.symm.trans hp
  cases z
  have := hx.2 _ rfl
  omega⟩
theorem pair_right {H : Hp} {p : Addr} {x : V} {j : Int} (h : H p = some (.tup [.int j, x])) (hx : Sg H x) : Nh H (.ref p) := ⟨_, .tup2 h (.int _) hx.1, fun ⟨p', a, b, e, hp, _, hb⟩ => by
  cases e
  have z := h.symm.trans hp
  cases z
  have := hx.2 _ rfl
  omega⟩
theorem np_left {H : Hp} {p : Addr} {x : V} {j : Int} (h : H p = some (.tup [x, .int j])) (hx : Th H x) (hw : wh x = false) : Np H (.ref p) := by
  have k : PairK H (.ref p) (wh x && true) := .tup2 h hx (.int _)
  rw [hw] at k
  exact k
theorem np_right {H : Hp} {p : Addr} {x : V} {j : Int} (h : H p = some (.tup [.int j, x])) (hx : Th H x) (hw : wh x = false) : Np H (.ref p) := by
  have k : PairK H (.ref p) (true && wh x) := .tup2 h (.int _) hx
  rw [hw] at k
  exact k
theorem due_at {i : Nat} (hi : i < 4) : [V.bl (decide ((0 : Int) + (i : Int) = 0)), .bl (decide ((0 : Int) + (i : Int) = 1)), .bl (decide ((0 : Int) + (i : Int) = 2)), .bl (decide ((0 : Int) + (i : Int) = 3)), .bl true] = due i := by
  have h : i = 0 ∨ i = 1 ∨ i = 2 ∨ i = 3 := by omega
  rcases h with rfl | rfl | rfl | rfl <;> rfl
end TW

set_option hygiene false
local macro_rules | `(tactic| walk_at "hp") => `(tactic| first | assumption | exact upd_same | (refine same_at (by assumption) ?_; walk_at "hp"))
local macro_rules | `(tactic| walk_at "sm") => `(tactic| first | assumption | exact Same.refl _ | (refine same_back (by assumption) ?_; walk_at "sm"))
local macro_rules | `(tactic| walk_at "bd") => `(tactic| first | assumption | exact bd_lit | (apply bd_add; (walk_at "bd"); (walk_at "bd")) | (apply bd_sub; (walk_at "bd"); (walk_at "bd")) | (apply bd_mul; (walk_at "bd"); (walk_at "bd")) | (apply bd_neg; (walk_at "bd")) | (apply bd_mod; (walk_at "bd"); omega) | (apply bd_div; (walk_at "bd"); omega) | fail)
local macro_rules | `(tactic| walk_at "bdm") => `(tactic| (apply bd_mono'; (walk_at "bd"); exact rfl))
local macro_rules | `(tactic| walk_at "side") => `(tactic| first | assumption | omega | (apply cm_ok; (walk_at "bd"); (walk_at "bd"); exact rfl) | (apply cd_ok; omega; (walk_at "bd"); exact rfl) | (apply bd_le64; exact rfl) | (walk_at "bdm") | decide | fail)
local macro_rules | `(tactic| walk_at "is") => `(tactic| first
  | (refine ⟨_, _, _, _, _, rfl, .ty _, .base (.int _), (by first | exact kq_int_int | exact kq_int_bool | exact kq_int_tuple), ?_⟩)
  | (refine ⟨_, _, _, _, _, rfl, .ty _, .base (.bl _), (by first | exact kq_bool_int | exact kq_bool_bool | exact kq_bool_tuple), ?_⟩)
  | (refine ⟨_, _, _, _, _, rfl, .ty _, .base .non, (by first | exact kq_NoneType_int | exact kq_NoneType_bool | exact kq_NoneType_tuple), ?_⟩)
  | (refine ⟨_, _, _, _, _, rfl, .ty _, .base (.str _), (by first | exact kq_str_int | exact kq_str_bool | exact kq_str_tuple), ?_⟩)
  | (refine ⟨_, _, _, _, _, rfl, .ty _, .base (.tup (by walk_at "hp")), (by first | exact kq_tuple_int | exact kq_tuple_bool | exact kq_tuple_tuple), ?_⟩)
  | (refine ⟨_, _, _, _, _, rfl, .ty _, .base (.lst (by walk_at "hp")), (by first | exact kq_list_int | exact kq_list_bool | exact kq_list_tuple), ?_⟩)
  | (refine ⟨_, _, _, _, _, rfl, .ty _, .base (.dK (by walk_at "hp")), (by first | exact kq_dict_int | exact kq_dict_bool | exact kq_dict_tuple), ?_⟩))
local macro_rules | `(tactic| walk_at "ix") => `(tactic| refine ⟨_, _, _, _, rfl, rfl, SqT.of (by walk_at "hp"), rfl, ?_⟩)
local macro_rules | `(tactic| walk_at "sq") => `(tactic| first | assumption | exact SqL.of (by walk_at "hp") | (refine Same.seq (by assumption) ?_; walk_at "sq"))
local macro_rules | `(tactic| walk_at "ln") => `(tactic| first | (refine ⟨_, _, rfl, .inl ⟨_, by walk_at "sq", rfl⟩, ?_⟩) | (refine ⟨_, _, rfl, .inr ⟨_, SqT.of (by walk_at "hp"), rfl⟩, ?_⟩))
local macro_rules | `(tactic| walk_at "pp") => `(tactic| (refine ⟨_, _, _, _, _, _, rfl, rfl, (by walk_at "hp"), (by walk_at "hp"), ?_⟩))
local macro_rules | `(tactic| walk_at "inp") => `(tactic| (refine ⟨_, _, _, _, rfl, rfl, (by walk_at "hp"), ?_⟩))
local macro_rules | `(tactic| walk_at "sl") => `(tactic| refine ⟨_, _, rfl, (show SqL _ _ _ _ by walk_at "sq"), ?_⟩)
local macro_rules | `(tactic| walk_at "pr") => `(tactic| first | refine ⟨_, _, _, rfl, (show _ = _ by walk_at "hp"), ?_⟩ | refine ⟨_, _, _, rfl, (show SqL _ _ _ _ by walk_at "sq"), ?_⟩)
local macro_rules | `(tactic| walk_at "may") => `(tactic| (refine ⟨_, _, _, _, _, _, _, rfl, (show _ = _ by walk_at "hp"), (show _ = _ by walk_at "hp"), ?_⟩))
local macro_rules | `(tactic| walk_at "pr4") => `(tactic| (refine ⟨_, _, _, _, rfl, (show _ = _ by walk_at "hp"), ?_⟩))
local macro_rules | `(tactic| walk_at "tg") => `(tactic| (refine ⟨_, _, rfl, SqT.of (by walk_at "hp"), rfl, ?_⟩))
local macro_rules | `(tactic| walk_at "pr5") => `(tactic| (refine ⟨_, _, _, _, _, rfl, (show _ = _ by walk_at "hp"), ?_⟩))
local macro_rules | `(tactic| walk_at "mt") => `(tactic| (refine ⟨_, _, _, rfl, (show _ = _ by walk_at "hp"), look_no (by decide +kernel), ?_⟩))
local macro_rules | `(tactic| walk_at "ws") => `(tactic| (refine ⟨_, _, _, _, _, _, _, _, _, rfl, (show _ = _ by walk_at "hp"), (show _ = _ by walk_at "hp"), (show _ = _ by walk_at "hp"), ?_⟩))
local macro_rules | `(tactic| walk_at "rd") => `(tactic| repeat (first
  | (refine ⟨_, rfl, ?_⟩)
  | (refine ⟨_, _, rfl, rfl, ?_⟩)
  | (refine ⟨rfl, rfl, ?_⟩)
  | (walk_at "ix")
  | (walk_at "is")
  | (walk_at "ln")
  | (walk_at "pp")
  | (walk_at "inp")
  | (walk_at "pr")
  | (walk_at "pr4")
  | (walk_at "mt")
  | (walk_at "may")
  | (walk_at "ws")
  | (walk_at "pr5")
  | (walk_at "tg")
  | (walk_at "sl")
  | (refine ⟨_, _, rfl, rfl, (by (show (_ : Prop)); walk_at "side"), ?_⟩)
  | (refine ⟨_, _, rfl, ?_⟩)
  | (refine ⟨_, _, _, rfl, ?_⟩)
  | (refine ⟨(by (show (_ : Prop)); walk_at "side"), ?_⟩)
  | (refine ⟨(show ([] : List V) = [] from rfl), ?_⟩)
  | fail))
local macro_rules | `(tactic| walk_at "br") => `(tactic| (refine ite2 (fun c => ?_) (fun c => ?_) <;> simp only [decide_eq_true_eq, Bool.not_eq_true', decide_eq_false_iff_not, Bool.not_eq_true, Bool.true_eq_false, Bool.false_eq_true, Bool.not_true, Bool.not_false, not_true, not_false_eq_true] at c))

namespace TW
open PySem PySem.Spec PyProof.Rows L2 TH

def topS (i : Nat) : Stmt := PySem.Challenge.pw_twoheaps_k05_refused.main.body.getD i (.Pass ⟨0, 0, 0, 0⟩)
abbrev s_is_whole : Stmt := topS 8
theorem sc_is_whole : FnScope ["thing"] ["thing"] (defScope s_is_whole) := ⟨rfl, rfl, rfl, by decide +kernel, rfl, by decide +kernel, by decide +kernel⟩
abbrev s_is_pair : Stmt := topS 9
theorem sc_is_pair : FnScope ["thing"] ["thing"] (defScope s_is_pair) := ⟨rfl, rfl, rfl, by decide +kernel, rfl, by decide +kernel, by decide +kernel⟩
abbrev s_check_bound : Stmt := topS 10
theorem sc_check_bound : FnScope ["bound"] ["bound"] (defScope s_check_bound) := ⟨rfl, rfl, rfl, by decide +kernel, rfl, by decide +kernel, by decide +kernel⟩
abbrev s_check_heaps : Stmt := topS 11
theorem sc_check_heaps : FnScope ["heaps"] ["heaps"] (defScope s_check_heaps) := ⟨rfl, rfl, rfl, by decide +kernel, rfl, by decide +kernel, by decide +kernel⟩
abbrev s_may_be : Stmt := topS 12
theorem sc_may_be : FnScope ["bound", "heaps", "taking"] ["bound", "heaps", "taking"] (defScope s_may_be) := ⟨rfl, rfl, rfl, by decide +kernel, rfl, by decide +kernel, by decide +kernel⟩
abbrev s_can : Stmt := topS 13
theorem sc_can : FnScope ["bound", "heaps", "taking"] ["bound", "heaps", "taking"] (defScope s_can) := ⟨rfl, rfl, rfl, by decide +kernel, rfl, by decide +kernel, by decide +kernel⟩
abbrev s_left : Stmt := topS 14
theorem sc_left : FnScope ["bound", "heaps", "taking"] ["bound", "heaps", "taking"] (defScope s_left) := ⟨rfl, rfl, rfl, by decide +kernel, rfl, by decide +kernel, by decide +kernel⟩
abbrev s_pair_by : Stmt := topS 19
theorem sc_pair_by : FnScope ["bound", "number"] ["bound", "number"] (defScope s_pair_by) := ⟨rfl, rfl, rfl, by decide +kernel, rfl, by decide +kernel, by decide +kernel⟩
abbrev s_pair_with : Stmt := topS 21
theorem sc_pair_with : FnScope ["bound", "number"] ["bound", "number"] (defScope s_pair_with) := ⟨rfl, rfl, rfl, by decide +kernel, rfl, by decide +kernel, by decide +kernel⟩
abbrev s_told : Stmt := topS 29
theorem sc_told : FnScope ["bound", "heaps", "low", "high", "mine", "theirs"] ["bound", "heaps"] (defScope s_told) := ⟨rfl, rfl, rfl, by decide +kernel, rfl, by decide +kernel, by decide +kernel⟩
abbrev s__law_cell_at : Stmt := topS 31
theorem sc__law_cell_at : FnScope ["_law_script", "_law_k"] ["_law_script", "_law_k"] (defScope s__law_cell_at) := ⟨rfl, rfl, rfl, by decide +kernel, rfl, by decide +kernel, by decide +kernel⟩
abbrev s__law_kinds : Stmt := topS 32
theorem sc__law_kinds : FnScope ["_law_error", "_law_found"] ["_law_error"] (defScope s__law_kinds) := ⟨rfl, rfl, rfl, by decide +kernel, rfl, by decide +kernel, by decide +kernel⟩
abbrev s__law_with_bound : Stmt := topS 33
theorem sc__law_with_bound : FnScope ["_law_door", "_law_bound"] ["_law_door", "_law_bound"] (defScope s__law_with_bound) := ⟨rfl, rfl, rfl, by decide +kernel, rfl, by decide +kernel, by decide +kernel⟩
abbrev s__law_with_heaps : Stmt := topS 34
theorem sc__law_with_heaps : FnScope ["_law_door", "_law_heaps"] ["_law_door", "_law_heaps"] (defScope s__law_with_heaps) := ⟨rfl, rfl, rfl, by decide +kernel, rfl, by decide +kernel, by decide +kernel⟩
abbrev s__law_with_taking : Stmt := topS 35
theorem sc__law_with_taking : FnScope ["_law_door", "_law_taking"] ["_law_door", "_law_taking"] (defScope s__law_with_taking) := ⟨rfl, rfl, rfl, by decide +kernel, rfl, by decide +kernel, by decide +kernel⟩
abbrev s__law_with_number : Stmt := topS 36
theorem sc__law_with_number : FnScope ["_law_door", "_law_number"] ["_law_door", "_law_number"] (defScope s__law_with_number) := ⟨rfl, rfl, rfl, by decide +kernel, rfl, by decide +kernel, by decide +kernel⟩
abbrev s__law_told : Stmt := topS 37
theorem sc__law_told : FnScope ["_law_ask", "_law_door", "_law_thing", "_law_error"] ["_law_ask", "_law_door", "_law_thing"] (defScope s__law_told) := ⟨rfl, rfl, rfl, by decide +kernel, rfl, by decide +kernel, by decide +kernel⟩
abbrev s__law_all : Stmt := topS 38
theorem sc__law_all : FnScope ["_law_ask", "_law_doors", "_law_things", "_law_due", "_law_door", "_law_thing"] ["_law_ask", "_law_doors", "_law_things", "_law_due"] (defScope s__law_all) := ⟨rfl, rfl, rfl, by decide +kernel, rfl, by decide +kernel, by decide +kernel⟩
abbrev s_law : Stmt := topS 39
theorem sc_law : FnScope ["_law_script", "_law_far", "_law_due", "_law_k", "_law_strange", "_law_pairs", "_law_odd", "_law_mixed", "_law_none", "_law_thing", "_law_taking"] ["_law_script"] (defScope s_law) := ⟨rfl, rfl, rfl, by decide +kernel, rfl, by decide +kernel, by decide +kernel⟩
/-- what the top has written -/
structure Txt (K : PySem.W.Frag) (mg : Str → Option Value) where
  a_HeapError : Addr
  a_BadBound : Addr
  a_BadHeaps : Addr
  a_BadTaking : Addr
  a_BadNumber : Addr
  a_is_whole : Addr
  d_is_whole : FuncData
  a_is_pair : Addr
  d_is_pair : FuncData
  a_check_bound : Addr
  d_check_bound : FuncData
  a_check_heaps : Addr
  d_check_heaps : FuncData
  a_may_be : Addr
  d_may_be : FuncData
  a_can : Addr
  d_can : FuncData
  a_left : Addr
  d_left : FuncData
  a_pair_by : Addr
  d_pair_by : FuncData
  a_pair_with : Addr
  d_pair_with : FuncData
  a_told : Addr
  d_told : FuncData
  a__law_cell_at : Addr
  d__law_cell_at : FuncData
  a__law_kinds : Addr
  d__law_kinds : FuncData
  a__law_with_bound : Addr
  d__law_with_bound : FuncData
  a__law_with_heaps : Addr
  d__law_with_heaps : FuncData
  a__law_with_taking : Addr
  d__law_with_taking : FuncData
  a__law_with_number : Addr
  d__law_with_number : FuncData
  a__law_told : Addr
  d__law_told : FuncData
  a__law_all : Addr
  d__law_all : FuncData
  a_law : Addr
  d_law : FuncData
  g_HeapError : mg "HeapError" = some (.ref a_HeapError)
  g_BadBound : mg "BadBound" = some (.ref a_BadBound)
  g_BadHeaps : mg "BadHeaps" = some (.ref a_BadHeaps)
  g_BadTaking : mg "BadTaking" = some (.ref a_BadTaking)
  g_BadNumber : mg "BadNumber" = some (.ref a_BadNumber)
  x_HeapError : PySem.W.excIn K a_HeapError [.type "ValueError", .type "Exception", .type "BaseException", .type "object"] "ValueError.__new__" = true
  k_HeapError : PySem.W.keepIn K (.ref a_HeapError) = true
  b_HeapError : PySem.W.subIn K (.ref a_HeapError) (.type "BaseException") = some true
  t_HeapError : PySem.W.typeIn K (.ref a_HeapError) = some (.type "type")
  x_BadBound : PySem.W.excIn K a_BadBound [.type "ValueError", .type "Exception", .type "BaseException", .type "object"] "ValueError.__new__" = true
  k_BadBound : PySem.W.keepIn K (.ref a_BadBound) = true
  b_BadBound : PySem.W.subIn K (.ref a_BadBound) (.type "BaseException") = some true
  t_BadBound : PySem.W.typeIn K (.ref a_BadBound) = some (.type "type")
  x_BadHeaps : PySem.W.excIn K a_BadHeaps [.type "ValueError", .type "Exception", .type "BaseException", .type "object"] "ValueError.__new__" = true
  k_BadHeaps : PySem.W.keepIn K (.ref a_BadHeaps) = true
  b_BadHeaps : PySem.W.subIn K (.ref a_BadHeaps) (.type "BaseException") = some true
  t_BadHeaps : PySem.W.typeIn K (.ref a_BadHeaps) = some (.type "type")
  x_BadTaking : PySem.W.excIn K a_BadTaking [.type "ValueError", .type "Exception", .type "BaseException", .type "object"] "ValueError.__new__" = true
  k_BadTaking : PySem.W.keepIn K (.ref a_BadTaking) = true
  b_BadTaking : PySem.W.subIn K (.ref a_BadTaking) (.type "BaseException") = some true
  t_BadTaking : PySem.W.typeIn K (.ref a_BadTaking) = some (.type "type")
  x_BadNumber : PySem.W.excIn K a_BadNumber [.type "ValueError", .type "Exception", .type "BaseException", .type "object"] "ValueError.__new__" = true
  k_BadNumber : PySem.W.keepIn K (.ref a_BadNumber) = true
  b_BadNumber : PySem.W.subIn K (.ref a_BadNumber) (.type "BaseException") = some true
  t_BadNumber : PySem.W.typeIn K (.ref a_BadNumber) = some (.type "type")
  i_HeapError : PySem.W.isClsIn K a_HeapError = true
  su_HeapError_HeapError : PySem.W.subIn K (.ref a_HeapError) (.ref a_HeapError) = some true
  hd_HeapError : PySem.W.hasDictIn K a_HeapError = true
  i_BadBound : PySem.W.isClsIn K a_BadBound = true
  su_BadBound_BadBound : PySem.W.subIn K (.ref a_BadBound) (.ref a_BadBound) = some true
  hd_BadBound : PySem.W.hasDictIn K a_BadBound = true
  su_BadBound_HeapError : PySem.W.subIn K (.ref a_BadBound) (.ref a_HeapError) = some true
  hg_BadBound : PySem.W.findIn K (.ref a_BadBound) "__getattribute__" = some (some (.builtin "BaseException.__getattribute__"))
  hk_BadBound : PySem.W.findIn K (.ref a_BadBound) "__getattr__" = some none
  ha_BadBound : PySem.W.findIn K (.ref a_BadBound) "__class__" = some (some (.builtin "object.__class__"))
  hm_BadBound : PySem.W.mroIn K a_BadBound (.type "object") = some true
  i_BadHeaps : PySem.W.isClsIn K a_BadHeaps = true
  su_BadHeaps_BadHeaps : PySem.W.subIn K (.ref a_BadHeaps) (.ref a_BadHeaps) = some true
  hd_BadHeaps : PySem.W.hasDictIn K a_BadHeaps = true
  su_BadHeaps_HeapError : PySem.W.subIn K (.ref a_BadHeaps) (.ref a_HeapError) = some true
  hg_BadHeaps : PySem.W.findIn K (.ref a_BadHeaps) "__getattribute__" = some (some (.builtin "BaseException.__getattribute__"))
  hk_BadHeaps : PySem.W.findIn K (.ref a_BadHeaps) "__getattr__" = some none
  ha_BadHeaps : PySem.W.findIn K (.ref a_BadHeaps) "__class__" = some (some (.builtin "object.__class__"))
  hm_BadHeaps : PySem.W.mroIn K a_BadHeaps (.type "object") = some true
  i_BadTaking : PySem.W.isClsIn K a_BadTaking = true
  su_BadTaking_BadTaking : PySem.W.subIn K (.ref a_BadTaking) (.ref a_BadTaking) = some true
  hd_BadTaking : PySem.W.hasDictIn K a_BadTaking = true
  su_BadTaking_HeapError : PySem.W.subIn K (.ref a_BadTaking) (.ref a_HeapError) = some true
  hg_BadTaking : PySem.W.findIn K (.ref a_BadTaking) "__getattribute__" = some (some (.builtin "BaseException.__getattribute__"))
  hk_BadTaking : PySem.W.findIn K (.ref a_BadTaking) "__getattr__" = some none
  ha_BadTaking : PySem.W.findIn K (.ref a_BadTaking) "__class__" = some (some (.builtin "object.__class__"))
  hm_BadTaking : PySem.W.mroIn K a_BadTaking (.type "object") = some true
  i_BadNumber : PySem.W.isClsIn K a_BadNumber = true
  su_BadNumber_BadNumber : PySem.W.subIn K (.ref a_BadNumber) (.ref a_BadNumber) = some true
  hd_BadNumber : PySem.W.hasDictIn K a_BadNumber = true
  su_BadNumber_HeapError : PySem.W.subIn K (.ref a_BadNumber) (.ref a_HeapError) = some true
  hg_BadNumber : PySem.W.findIn K (.ref a_BadNumber) "__getattribute__" = some (some (.builtin "BaseException.__getattribute__"))
  hk_BadNumber : PySem.W.findIn K (.ref a_BadNumber) "__getattr__" = some none
  ha_BadNumber : PySem.W.findIn K (.ref a_BadNumber) "__class__" = some (some (.builtin "object.__class__"))
  hm_BadNumber : PySem.W.mroIn K a_BadNumber (.type "object") = some true
  hn : PySem.W.specialIn K (.builtin "object.__class__") "__get__" = some (some (.builtin "getset_descriptor.__get__"))
  htk : PySem.W.takesIn K (.builtin "object.__class__") = some true
  su_BadBound_BadHeaps : PySem.W.subIn K (.ref a_BadBound) (.ref a_BadHeaps) = some false
  su_BadBound_BadTaking : PySem.W.subIn K (.ref a_BadBound) (.ref a_BadTaking) = some false
  su_BadBound_BadNumber : PySem.W.subIn K (.ref a_BadBound) (.ref a_BadNumber) = some false
  su_BadHeaps_BadBound : PySem.W.subIn K (.ref a_BadHeaps) (.ref a_BadBound) = some false
  su_BadHeaps_BadTaking : PySem.W.subIn K (.ref a_BadHeaps) (.ref a_BadTaking) = some false
  su_BadHeaps_BadNumber : PySem.W.subIn K (.ref a_BadHeaps) (.ref a_BadNumber) = some false
  su_BadTaking_BadBound : PySem.W.subIn K (.ref a_BadTaking) (.ref a_BadBound) = some false
  su_BadTaking_BadHeaps : PySem.W.subIn K (.ref a_BadTaking) (.ref a_BadHeaps) = some false
  su_BadTaking_BadNumber : PySem.W.subIn K (.ref a_BadTaking) (.ref a_BadNumber) = some false
  su_BadNumber_BadBound : PySem.W.subIn K (.ref a_BadNumber) (.ref a_BadBound) = some false
  su_BadNumber_BadHeaps : PySem.W.subIn K (.ref a_BadNumber) (.ref a_BadHeaps) = some false
  su_BadNumber_BadTaking : PySem.W.subIn K (.ref a_BadNumber) (.ref a_BadTaking) = some false
  su_BadBound_ValueError : PySem.W.subIn K (.ref a_BadBound) (.type "ValueError") = some true
  su_BadHeaps_ValueError : PySem.W.subIn K (.ref a_BadHeaps) (.type "ValueError") = some true
  su_BadTaking_ValueError : PySem.W.subIn K (.ref a_BadTaking) (.type "ValueError") = some true
  su_BadNumber_ValueError : PySem.W.subIn K (.ref a_BadNumber) (.type "ValueError") = some true
  F_is_whole : Fun K "is_whole" "is_whole" s_is_whole a_is_whole d_is_whole
  g_is_whole : mg "is_whole" = some (.ref a_is_whole)
  b_is_whole : Binds K d_is_whole ["thing"] []
  F_is_pair : Fun K "is_pair" "is_pair" s_is_pair a_is_pair d_is_pair
  g_is_pair : mg "is_pair" = some (.ref a_is_pair)
  b_is_pair : Binds K d_is_pair ["thing"] []
  F_check_bound : Fun K "check_bound" "check_bound" s_check_bound a_check_bound d_check_bound
  g_check_bound : mg "check_bound" = some (.ref a_check_bound)
  b_check_bound : Binds K d_check_bound ["bound"] []
  F_check_heaps : Fun K "check_heaps" "check_heaps" s_check_heaps a_check_heaps d_check_heaps
  g_check_heaps : mg "check_heaps" = some (.ref a_check_heaps)
  b_check_heaps : Binds K d_check_heaps ["heaps"] []
  F_may_be : Fun K "may_be" "may_be" s_may_be a_may_be d_may_be
  g_may_be : mg "may_be" = some (.ref a_may_be)
  b_may_be : Binds K d_may_be ["bound", "heaps", "taking"] []
  F_can : Fun K "can" "can" s_can a_can d_can
  g_can : mg "can" = some (.ref a_can)
  b_can : Binds K d_can ["bound", "heaps", "taking"] []
  F_left : Fun K "left" "left" s_left a_left d_left
  g_left : mg "left" = some (.ref a_left)
  b_left : Binds K d_left ["bound", "heaps", "taking"] []
  F_pair_by : Fun K "pair_by" "pair_by" s_pair_by a_pair_by d_pair_by
  g_pair_by : mg "pair_by" = some (.ref a_pair_by)
  b_pair_by : Binds K d_pair_by ["bound", "number"] []
  F_pair_with : Fun K "pair_with" "pair_with" s_pair_with a_pair_with d_pair_with
  g_pair_with : mg "pair_with" = some (.ref a_pair_with)
  b_pair_with : Binds K d_pair_with ["bound", "number"] []
  F_told : Fun K "told" "told" s_told a_told d_told
  g_told : mg "told" = some (.ref a_told)
  b_told : Binds K d_told ["bound", "heaps"] []
  F__law_cell_at : Fun K "_law_cell_at" "_law_cell_at" s__law_cell_at a__law_cell_at d__law_cell_at
  g__law_cell_at : mg "_law_cell_at" = some (.ref a__law_cell_at)
  b__law_cell_at : Binds K d__law_cell_at ["_law_script", "_law_k"] []
  F__law_kinds : Fun K "_law_kinds" "_law_kinds" s__law_kinds a__law_kinds d__law_kinds
  g__law_kinds : mg "_law_kinds" = some (.ref a__law_kinds)
  b__law_kinds : Binds K d__law_kinds ["_law_error"] []
  F__law_with_bound : Fun K "_law_with_bound" "_law_with_bound" s__law_with_bound a__law_with_bound d__law_with_bound
  g__law_with_bound : mg "_law_with_bound" = some (.ref a__law_with_bound)
  b__law_with_bound : Binds K d__law_with_bound ["_law_door", "_law_bound"] []
  F__law_with_heaps : Fun K "_law_with_heaps" "_law_with_heaps" s__law_with_heaps a__law_with_heaps d__law_with_heaps
  g__law_with_heaps : mg "_law_with_heaps" = some (.ref a__law_with_heaps)
  b__law_with_heaps : Binds K d__law_with_heaps ["_law_door", "_law_heaps"] []
  F__law_with_taking : Fun K "_law_with_taking" "_law_with_taking" s__law_with_taking a__law_with_taking d__law_with_taking
  g__law_with_taking : mg "_law_with_taking" = some (.ref a__law_with_taking)
  b__law_with_taking : Binds K d__law_with_taking ["_law_door", "_law_taking"] []
  F__law_with_number : Fun K "_law_with_number" "_law_with_number" s__law_with_number a__law_with_number d__law_with_number
  g__law_with_number : mg "_law_with_number" = some (.ref a__law_with_number)
  b__law_with_number : Binds K d__law_with_number ["_law_door", "_law_number"] []
  F__law_told : Fun K "_law_told" "_law_told" s__law_told a__law_told d__law_told
  g__law_told : mg "_law_told" = some (.ref a__law_told)
  b__law_told : Binds K d__law_told ["_law_ask", "_law_door", "_law_thing"] []
  F__law_all : Fun K "_law_all" "_law_all" s__law_all a__law_all d__law_all
  g__law_all : mg "_law_all" = some (.ref a__law_all)
  b__law_all : Binds K d__law_all ["_law_ask", "_law_doors", "_law_things", "_law_due"] []
  F_law : Fun K "law" "law" s_law a_law d_law
  g_law : mg "law" = some (.ref a_law)
  b_law : Binds K d_law ["_law_script"] []
  n_isinstance : mg "isinstance" = none
  n_len : mg "len" = none
  n_max : mg "max" = none
  n_min : mg "min" = none
  n_abs : mg "abs" = none
  n_int : mg "int" = none
  n_bool : mg "bool" = none
  n_tuple : mg "tuple" = none
  n_range : mg "range" = none
  n_all : mg "all" = none
  n_ValueError : mg "ValueError" = none
theorem Txt.ex_HeapError_BadBound {K : PySem.W.Frag} {mg : Str → Option Value} (T : Txt K mg) : PySem.W.exmOne K (.ref T.a_BadBound) (.ref T.a_HeapError) = some true := PySem.W.exm_ref T.b_HeapError T.hd_HeapError T.t_HeapError T.su_BadBound_HeapError
theorem Txt.kit_BadBound {K : PySem.W.Frag} {mg : Str → Option Value} (T : Txt K mg) : PySem.W.kitOne K (.ref T.a_BadBound) (.ref T.a_BadBound) = some true := kit_own T.i_BadBound T.t_BadBound T.su_BadBound_BadBound T.su_BadBound_BadBound
theorem Txt.exc_BadBound {K : PySem.W.Frag} {mg : Str → Option Value} (T : Txt K mg) : ExcC K T.a_BadBound := ⟨T.hg_BadBound, T.hk_BadBound, T.b_BadBound, T.hd_BadBound, T.ha_BadBound, T.hn, T.htk, T.hm_BadBound⟩
theorem Txt.ex_HeapError_BadHeaps {K : PySem.W.Frag} {mg : Str → Option Value} (T : Txt K mg) : PySem.W.exmOne K (.ref T.a_BadHeaps) (.ref T.a_HeapError) = some true := PySem.W.exm_ref T.b_HeapError T.hd_HeapError T.t_HeapError T.su_BadHeaps_HeapError
theorem Txt.kit_BadHeaps {K : PySem.W.Frag} {mg : Str → Option Value} (T : Txt K mg) : PySem.W.kitOne K (.ref T.a_BadHeaps) (.ref T.a_BadHeaps) = some true := kit_own T.i_BadHeaps T.t_BadHeaps T.su_BadHeaps_BadHeaps T.su_BadHeaps_BadHeaps
theorem Txt.exc_BadHeaps {K : PySem.W.Frag} {mg : Str → Option Value} (T : Txt K mg) : ExcC K T.a_BadHeaps := ⟨T.hg_BadHeaps, T.hk_BadHeaps, T.b_BadHeaps, T.hd_BadHeaps, T.ha_BadHeaps, T.hn, T.htk, T.hm_BadHeaps⟩
theorem Txt.ex_HeapError_BadTaking {K : PySem.W.Frag} {mg : Str → Option Value} (T : Txt K mg) : PySem.W.exmOne K (.ref T.a_BadTaking) (.ref T.a_HeapError) = some true := PySem.W.exm_ref T.b_HeapError T.hd_HeapError T.t_HeapError T.su_BadTaking_HeapError
theorem Txt.kit_BadTaking {K : PySem.W.Frag} {mg : Str → Option Value} (T : Txt K mg) : PySem.W.kitOne K (.ref T.a_BadTaking) (.ref T.a_BadTaking) = some true := kit_own T.i_BadTaking T.t_BadTaking T.su_BadTaking_BadTaking T.su_BadTaking_BadTaking
theorem Txt.exc_BadTaking {K : PySem.W.Frag} {mg : Str → Option Value} (T : Txt K mg) : ExcC K T.a_BadTaking := ⟨T.hg_BadTaking, T.hk_BadTaking, T.b_BadTaking, T.hd_BadTaking, T.ha_BadTaking, T.hn, T.htk, T.hm_BadTaking⟩
theorem Txt.ex_HeapError_BadNumber {K : PySem.W.Frag} {mg : Str → Option Value} (T : Txt K mg) : PySem.W.exmOne K (.ref T.a_BadNumber) (.ref T.a_HeapError) = some true := PySem.W.exm_ref T.b_HeapError T.hd_HeapError T.t_HeapError T.su_BadNumber_HeapError
theorem Txt.kit_BadNumber {K : PySem.W.Frag} {mg : Str → Option Value} (T : Txt K mg) : PySem.W.kitOne K (.ref T.a_BadNumber) (.ref T.a_BadNumber) = some true := kit_own T.i_BadNumber T.t_BadNumber T.su_BadNumber_BadNumber T.su_BadNumber_BadNumber
theorem Txt.exc_BadNumber {K : PySem.W.Frag} {mg : Str → Option Value} (T : Txt K mg) : ExcC K T.a_BadNumber := ⟨T.hg_BadNumber, T.hk_BadNumber, T.b_BadNumber, T.hd_BadNumber, T.ha_BadNumber, T.hn, T.htk, T.hm_BadNumber⟩
theorem Txt.kq_BadBound_BadBound {K : PySem.W.Frag} {mg : Str → Option Value} (T : Txt K mg) : PySem.W.kitOne K (.ref T.a_BadBound) (.ref T.a_BadBound) = some true := kit_own T.i_BadBound T.t_BadBound T.su_BadBound_BadBound T.su_BadBound_BadBound
theorem Txt.kq_BadBound_BadHeaps {K : PySem.W.Frag} {mg : Str → Option Value} (T : Txt K mg) : PySem.W.kitOne K (.ref T.a_BadBound) (.ref T.a_BadHeaps) = some false := kit_own T.i_BadHeaps T.t_BadHeaps T.su_BadBound_BadHeaps T.su_BadHeaps_BadHeaps
theorem Txt.kq_BadBound_BadTaking {K : PySem.W.Frag} {mg : Str → Option Value} (T : Txt K mg) : PySem.W.kitOne K (.ref T.a_BadBound) (.ref T.a_BadTaking) = some false := kit_own T.i_BadTaking T.t_BadTaking T.su_BadBound_BadTaking T.su_BadTaking_BadTaking
theorem Txt.kq_BadBound_BadNumber {K : PySem.W.Frag} {mg : Str → Option Value} (T : Txt K mg) : PySem.W.kitOne K (.ref T.a_BadBound) (.ref T.a_BadNumber) = some false := kit_own T.i_BadNumber T.t_BadNumber T.su_BadBound_BadNumber T.su_BadNumber_BadNumber
theorem Txt.kv_BadBound {K : PySem.W.Frag} {mg : Str → Option Value} (T : Txt K mg) : PySem.W.kitOne K (.ref T.a_BadBound) (.type "ValueError") = some true := kit_type (by decide +kernel) T.su_BadBound_ValueError
theorem Txt.kq_BadHeaps_BadBound {K : PySem.W.Frag} {mg : Str → Option Value} (T : Txt K mg) : PySem.W.kitOne K (.ref T.a_BadHeaps) (.ref T.a_BadBound) = some false := kit_own T.i_BadBound T.t_BadBound T.su_BadHeaps_BadBound T.su_BadBound_BadBound
theorem Txt.kq_BadHeaps_BadHeaps {K : PySem.W.Frag} {mg : Str → Option Value} (T : Txt K mg) : PySem.W.kitOne K (.ref T.a_BadHeaps) (.ref T.a_BadHeaps) = some true := kit_own T.i_BadHeaps T.t_BadHeaps T.su_BadHeaps_BadHeaps T.su_BadHeaps_BadHeaps
theorem Txt.kq_BadHeaps_BadTaking {K : PySem.W.Frag} {mg : Str → Option Value} (T : Txt K mg) : PySem.W.kitOne K (.ref T.a_BadHeaps) (.ref T.a_BadTaking) = some false := kit_own T.i_BadTaking T.t_BadTaking T.su_BadHeaps_BadTaking T.su_BadTaking_BadTaking
theorem Txt.kq_BadHeaps_BadNumber {K : PySem.W.Frag} {mg : Str → Option Value} (T : Txt K mg) : PySem.W.kitOne K (.ref T.a_BadHeaps) (.ref T.a_BadNumber) = some false := kit_own T.i_BadNumber T.t_BadNumber T.su_BadHeaps_BadNumber T.su_BadNumber_BadNumber
theorem Txt.kv_BadHeaps {K : PySem.W.Frag} {mg : Str → Option Value} (T : Txt K mg) : PySem.W.kitOne K (.ref T.a_BadHeaps) (.type "ValueError") = some true := kit_type (by decide +kernel) T.su_BadHeaps_ValueError
theorem Txt.kq_BadTaking_BadBound {K : PySem.W.Frag} {mg : Str → Option Value} (T : Txt K mg) : PySem.W.kitOne K (.ref T.a_BadTaking) (.ref T.a_BadBound) = some false := kit_own T.i_BadBound T.t_BadBound T.su_BadTaking_BadBound T.su_BadBound_BadBound
theorem Txt.kq_BadTaking_BadHeaps {K : PySem.W.Frag} {mg : Str → Option Value} (T : Txt K mg) : PySem.W.kitOne K (.ref T.a_BadTaking) (.ref T.a_BadHeaps) = some false := kit_own T.i_BadHeaps T.t_BadHeaps T.su_BadTaking_BadHeaps T.su_BadHeaps_BadHeaps
theorem Txt.kq_BadTaking_BadTaking {K : PySem.W.Frag} {mg : Str → Option Value} (T : Txt K mg) : PySem.W.kitOne K (.ref T.a_BadTaking) (.ref T.a_BadTaking) = some true := kit_own T.i_BadTaking T.t_BadTaking T.su_BadTaking_BadTaking T.su_BadTaking_BadTaking
theorem Txt.kq_BadTaking_BadNumber {K : PySem.W.Frag} {mg : Str → Option Value} (T : Txt K mg) : PySem.W.kitOne K (.ref T.a_BadTaking) (.ref T.a_BadNumber) = some false := kit_own T.i_BadNumber T.t_BadNumber T.su_BadTaking_BadNumber T.su_BadNumber_BadNumber
theorem Txt.kv_BadTaking {K : PySem.W.Frag} {mg : Str → Option Value} (T : Txt K mg) : PySem.W.kitOne K (.ref T.a_BadTaking) (.type "ValueError") = some true := kit_type (by decide +kernel) T.su_BadTaking_ValueError
theorem Txt.kq_BadNumber_BadBound {K : PySem.W.Frag} {mg : Str → Option Value} (T : Txt K mg) : PySem.W.kitOne K (.ref T.a_BadNumber) (.ref T.a_BadBound) = some false := kit_own T.i_BadBound T.t_BadBound T.su_BadNumber_BadBound T.su_BadBound_BadBound
theorem Txt.kq_BadNumber_BadHeaps {K : PySem.W.Frag} {mg : Str → Option Value} (T : Txt K mg) : PySem.W.kitOne K (.ref T.a_BadNumber) (.ref T.a_BadHeaps) = some false := kit_own T.i_BadHeaps T.t_BadHeaps T.su_BadNumber_BadHeaps T.su_BadHeaps_BadHeaps
theorem Txt.kq_BadNumber_BadTaking {K : PySem.W.Frag} {mg : Str → Option Value} (T : Txt K mg) : PySem.W.kitOne K (.ref T.a_BadNumber) (.ref T.a_BadTaking) = some false := kit_own T.i_BadTaking T.t_BadTaking T.su_BadNumber_BadTaking T.su_BadTaking_BadTaking
theorem Txt.kq_BadNumber_BadNumber {K : PySem.W.Frag} {mg : Str → Option Value} (T : Txt K mg) : PySem.W.kitOne K (.ref T.a_BadNumber) (.ref T.a_BadNumber) = some true := kit_own T.i_BadNumber T.t_BadNumber T.su_BadNumber_BadNumber T.su_BadNumber_BadNumber
theorem Txt.kv_BadNumber {K : PySem.W.Frag} {mg : Str → Option Value} (T : Txt K mg) : PySem.W.kitOne K (.ref T.a_BadNumber) (.type "ValueError") = some true := kit_type (by decide +kernel) T.su_BadNumber_ValueError

section
variable {P : Program} {w : World} {K : PySem.W.Frag} {mg : Str → Option Value} {base : Heap}

def sp_is_whole  : Sp := fun vs H Q E => ∃ (v : V), vs = [v] ∧ Th H v ∧ Q (.bl (wh v)) H
theorem ok_is_whole (T : Txt K mg) : FnOk P w K mg base CX0 1 T.a_is_whole T.d_is_whole ["thing"] (sp_is_whole ) := by
  refine T.F_is_whole.ok sc_is_whole (fun vs H Q E h => ?_) (fun cdv A outer s H vs Q E hr h => ?_)
  · obtain ⟨_, rfl, _⟩ := h
    rfl
  · have hu := hu_of hr
    obtain ⟨v, rfl, th, q⟩ := h
    refine ⟨_, (pss_one (ps_ret (pe_and (pe_callB call_isi (by rfl) T.n_isinstance (by decide +kernel) (pa_cons (pv 0) (pa_cons (pe_bltn (v := .ty "int") (by rfl) T.n_int (by decide +kernel) rfl) pa_nil))) (pe_one (pe_not (pe_callB call_isi (by rfl) T.n_isinstance (by decide +kernel) (pa_cons (pv 0) (pa_cons (pe_bltn (v := .ty "bool") (by rfl) T.n_bool (by decide +kernel) rfl) pa_nil)))))))), ?_⟩
    cases th
    all_goals
      walk_at "rd"
      exact q

def sp_is_pair  : Sp := fun vs H Q E => ∃ (v : V) (b : Bool), vs = [v] ∧ PairK H v b ∧ Q (.bl b) H
theorem ok_is_pair (T : Txt K mg) : FnOk P w K mg base CX0 2 T.a_is_pair T.d_is_pair ["thing"] (sp_is_pair ) := by
  refine T.F_is_pair.ok sc_is_pair (fun vs H Q E h => ?_) (fun cdv A outer s H vs Q E hr h => ?_)
  · obtain ⟨_, _, rfl, _⟩ := h
    rfl
  · have hu := hu_of hr
    obtain ⟨v, b, rfl, pk, q⟩ := h
    refine ⟨_, (pss_one (ps_ret (pe_and (pe_callB call_isi (by rfl) T.n_isinstance (by decide +kernel) (pa_cons (pv 0) (pa_cons (pe_bltn (v := .ty "tuple") (by rfl) T.n_tuple (by decide +kernel) rfl) pa_nil))) (pe_and (pe_cmpR oEq (pe_callB call_len (by rfl) T.n_len (by decide +kernel) (pa_cons (pv 0) pa_nil)) pe_int (nomark _)) (pe_and (pe_call (ok_is_whole (P := P) (w := w) (base := base) T) (hr.mono (by decide : 1 ≤ _)) (by rfl) T.g_is_whole T.F_is_whole.kp T.b_is_whole .nil pass0 (pa_cons (pe_ix ix_tup (pv 0) pe_int (fun _ _ => rfl)) pa_nil)) (pe_one (pe_call (ok_is_whole (P := P) (w := w) (base := base) T) (hr.mono (by decide : 1 ≤ _)) (by rfl) T.g_is_whole T.F_is_whole.kp T.b_is_whole .nil pass0 (pa_cons (pe_ix ix_tup (pv 0) pe_int (fun _ _ => rfl)) pa_nil)))))))), ?_⟩
    cases pk with
    | tupn h n =>
      walk_at "rd"
      refine ite2 (fun c => ?_) (fun c => ?_)
      · have c := of_decide_eq_true c
        omega
      · walk_at "rd"
        exact q
    | @tup2 p u v h hu hv =>
      walk_at "rd"
      cases hw : wh u with
      | false =>
        rw [hw] at q
        walk_at "rd"
        exact q
      | true =>
        rw [hw] at q
        walk_at "rd"
        exact q
    | _ =>
      walk_at "rd"
      exact q

def sp_check_bound (CB : Addr) : Sp := fun vs H Q E => ∃ (v : V), vs = [v] ∧ Th H v ∧ (okN 1 v → Q .non H) ∧ (¬ okN 1 v → E (.ref CB) none H)
theorem ok_check_bound (T : Txt K mg) : FnOk P w K mg base (L2.CX P w) 2 T.a_check_bound T.d_check_bound ["bound"] (sp_check_bound T.a_BadBound) := by
  refine T.F_check_bound.okX sc_check_bound (fun vs H Q E h => ?_) (fun cdv A outer s H vs Q E hr h => ?_)
  · obtain ⟨_, rfl, _⟩ := h
    rfl
  · have hu := hu_of hr
    obtain ⟨v, rfl, th, qY, qN⟩ := h
    refine ⟨_, (pss_one (ps_if (PW.pt (pw_or (pt_not (pt_val (pe_call (ok_is_whole (P := P) (w := w) (base := base) T) (hr.mono (by decide : 1 ≤ _)) (by rfl) T.g_is_whole T.F_is_whole.kp T.b_is_whole .nil pass0 (pa_cons (pv 0) pa_nil)))) (pw_or1 (pt_cmpR op_lt (pv 0) pe_int (nomark _))))) (pss_one (ps_raise rfl (takes_of rfl rfl rfl rfl) (pmk_own PySem.F.excBase_ValueError T.x_BadBound T.g_BadBound T.k_BadBound (raises_own T.b_BadBound T.t_BadBound) (by exact rfl)))) pss_nil)), ?_⟩
    have th2 := th
    cases th with
    | int i =>
      walk_at "rd"
      refine ite2 (fun c => ?_) (fun c => ?_)
      · have c := of_decide_eq_true c
        exact qN fun ⟨j, e, h⟩ => by cases e; omega
      · have c : ¬ i < 1 := fun z => c (decide_eq_true z)
        exact qY ⟨i, rfl, by omega⟩
    | _ =>
      walk_at "rd"
      exact qN fun ⟨j, e, h⟩ => by cases e

def sp_check_heaps (CB : Addr) : Sp := fun vs H Q E => ∃ (v : V) (b : Bool), vs = [v] ∧ PairK H v b ∧ (okH H v → Q .non H) ∧ (¬ okH H v → E (.ref CB) none H)
theorem ok_check_heaps (T : Txt K mg) : FnOk P w K mg base (L2.CX P w) 3 T.a_check_heaps T.d_check_heaps ["heaps"] (sp_check_heaps T.a_BadHeaps) := by
  refine T.F_check_heaps.okX sc_check_heaps (fun vs H Q E h => ?_) (fun cdv A outer s H vs Q E hr h => ?_)
  · obtain ⟨_, _, rfl, _⟩ := h
    rfl
  · have hu := hu_of hr
    obtain ⟨v, b, rfl, pk, qY, qN⟩ := h
    refine ⟨_, (pss_one (ps_if (PW.pt (pw_or (pt_not (pt_val (pe_call (ok_is_pair (P := P) (w := w) (base := base) T) (hr.mono (by decide : 2 ≤ _)) (by rfl) T.g_is_pair T.F_is_pair.kp T.b_is_pair .nil pass0 (pa_cons (pv 0) pa_nil)))) (pw_or1 (pt_cmpR op_lt (pe_callB (cMinP rfl hu) (by rfl) T.n_min (by decide +kernel) (pa_cons (pv 0) pa_nil)) pe_int (nomark _))))) (pss_one (ps_raise rfl (takes_of rfl rfl rfl rfl) (pmk_own PySem.F.excBase_ValueError T.x_BadHeaps T.g_BadHeaps T.k_BadHeaps (raises_own T.b_BadHeaps T.t_BadHeaps) (by exact rfl)))) pss_nil)), ?_⟩
    cases b with
    | false =>
      walk_at "rd"
      refine ⟨_, _, rfl, pk, ?_⟩
      walk_at "rd"
      exact qN fun ⟨p, x, y, e, h, _, _⟩ => by
        subst e
        cases pair_one pk h
    | true =>
      obtain ⟨p, x, y, rfl, hp⟩ := pair_two pk
      walk_at "rd"
      refine ⟨_, _, rfl, pk, ?_⟩
      walk_at "rd"
      refine ite2 (fun c => ?_) (fun c => ?_)
      · have c := of_decide_eq_true c
        exact qN fun ⟨p', x', y', e, h, hx, hy⟩ => by
          cases e
          have z := (show H p = some _ from hp).symm.trans h
          cases z
          omega
      · have c : ¬ min x y < 0 := fun z => c (decide_eq_true z)
        exact qY ⟨p, x, y, rfl, hp, by omega, by omega⟩

def sp_may_be  : Sp := fun vs H Q E => ∃ (t : Int) (p : Addr) (x y : Int) (r : Addr) (i j : Int), vs = [.int t, .ref p, .ref r] ∧ Pr H p x y ∧ Pr H r i j ∧ Q (.bl (decide (Legal t x y i j))) H
theorem ok_may_be (T : Txt K mg) : FnOk P w K mg base CX0 1 T.a_may_be T.d_may_be ["bound", "heaps", "taking"] (sp_may_be ) := by
  refine T.F_may_be.ok sc_may_be (fun vs H Q E h => ?_) (fun cdv A outer s H vs Q E hr h => ?_)
  · obtain ⟨_, _, _, _, _, _, _, rfl, _⟩ := h
    rfl
  · have hu := hu_of hr
    obtain ⟨t, p, x, y, r, i, j, rfl, hp, hr2, q⟩ := h
    refine ⟨_, (pss_cons (ps_if (PW.pt (pw_or (pt_cmpR op_lt (pe_callB (cMinP rfl hu) (by rfl) T.n_min (by decide +kernel) (pa_cons (pv 2) pa_nil)) pe_int (nomark _)) (pw_or (pt_cmpR oEq (pe_callB (cMaxP rfl hu) (by rfl) T.n_max (by decide +kernel) (pa_cons (pv 2) pa_nil)) pe_int (nomark _)) (pw_or (pt_cmpR op_gt (pe_ix ix_tup (pv 2) pe_int (fun _ _ => rfl)) (pe_ix ix_tup (pv 1) pe_int (fun _ _ => rfl)) (nomark _)) (pw_or1 (pt_cmpR op_gt (pe_ix ix_tup (pv 2) pe_int (fun _ _ => rfl)) (pe_ix ix_tup (pv 1) pe_int (fun _ _ => rfl)) (nomark _))))))) (pss_one (ps_ret pe_bl)) pss_nil) (pss_one (ps_ret (pe_or (pe_cmpR oEq (pe_callB (cMinP rfl hu) (by rfl) T.n_min (by decide +kernel) (pa_cons (pv 2) pa_nil)) pe_int (nomark _)) (pe_one (pe_cmpR op_lt (pe_callB call_abs (by rfl) T.n_abs (by decide +kernel) (pa_cons (pe_op op_sub (pe_ix ix_tup (pv 2) pe_int (fun _ _ => rfl)) (pe_ix ix_tup (pv 2) pe_int (fun _ _ => rfl))) pa_nil)) (pv 0) (nomark _))))))), ?_⟩
    walk_at "rd"
    refine ite2 (fun c => ?_) (fun c1 => ?_)
    · walk_at "rd"
      have c := of_decide_eq_true c
      have z : decide (Legal t x y i j) = false := decide_eq_false (by unfold Legal; omega)
      rw [z] at q
      exact q
    walk_at "rd"
    refine ite2 (fun c => ?_) (fun c2 => ?_)
    · walk_at "rd"
      have c := of_decide_eq_true c
      have z : decide (Legal t x y i j) = false := decide_eq_false (by unfold Legal; omega)
      rw [z] at q
      exact q
    walk_at "rd"
    refine ite2 (fun c => ?_) (fun c3 => ?_)
    · walk_at "rd"
      have c := of_decide_eq_true c
      have z : decide (Legal t x y i j) = false := decide_eq_false (by unfold Legal; omega)
      rw [z] at q
      exact q
    walk_at "rd"
    refine ite2 (fun c => ?_) (fun c4 => ?_)
    · walk_at "rd"
      have c := of_decide_eq_true c
      have z : decide (Legal t x y i j) = false := decide_eq_false (by unfold Legal; omega)
      rw [z] at q
      exact q
    simp only [decide_eq_true_eq] at c1 c2 c3 c4
    walk_at "rd"
    refine ite2 (fun c => ?_) (fun c => ?_)
    · have c := of_decide_eq_true c
      have z : decide (Legal t x y i j) = true := decide_eq_true (by unfold Legal; omega)
      rw [z] at q
      exact q
    · simp only [decide_eq_true_eq] at c
      walk_at "rd"
      have z : decide (Legal t x y i j) = decide ((if i - j < 0 then -(i - j) else i - j) < t) := decide_eq_decide.mpr (by unfold Legal; split <;> omega)
      rw [z] at q
      exact q

def sp_can (CB CH CT : Addr) : Sp := fun vs H Q E => ∃ (vb vh vt : V) (bh bt : Bool), vs = [vb, vh, vt] ∧ Th H vb ∧ PairK H vh bh ∧ PairK H vt bt ∧ (¬ okN 1 vb → E (.ref CB) none H) ∧ (okN 1 vb → ¬ okH H vh → E (.ref CH) none H) ∧ (okN 1 vb → okH H vh → bt = false → E (.ref CT) none H) ∧ (∀ (t : Int) (p : Addr) (x y : Int) (r : Addr) (i j : Int), vb = .int t → vh = .ref p → vt = .ref r → Pr H p x y → Pr H r i j → 1 ≤ t → 0 ≤ x → 0 ≤ y → Q (.bl (decide (Legal t x y i j))) H)
theorem ok_can (T : Txt K mg) : FnOk P w K mg base (L2.CX P w) 4 T.a_can T.d_can ["bound", "heaps", "taking"] (sp_can T.a_BadBound T.a_BadHeaps T.a_BadTaking) := by
  refine T.F_can.okX sc_can (fun vs H Q E h => ?_) (fun cdv A outer s H vs Q E hr h => ?_)
  · obtain ⟨_, _, _, _, _, rfl, _⟩ := h
    rfl
  · have hu := hu_of hr
    obtain ⟨vb, vh, vt, bh, bt, rfl, th, ph, pt, qB, qH, qT, qY⟩ := h
    refine ⟨_, (pss_cons (ps_expr (pe_call (ok_check_bound (P := P) (w := w) (base := base) T) (hr.mono (by decide : 2 ≤ _)) (by rfl) T.g_check_bound T.F_check_bound.kp T.b_check_bound .nil (passes_call (E := E) (W := fun cls d _ H => E cls d H) (takes_of rfl rfl rfl rfl) (fun _ _ _ _ h => h)) (pa_cons (pv 0) pa_nil))) (pss_cons (ps_expr (pe_call (ok_check_heaps (P := P) (w := w) (base := base) T) (hr.mono (by decide : 3 ≤ _)) (by rfl) T.g_check_heaps T.F_check_heaps.kp T.b_check_heaps .nil (passes_call (E := E) (W := fun cls d _ H => E cls d H) (takes_of rfl rfl rfl rfl) (fun _ _ _ _ h => h)) (pa_cons (pv 1) pa_nil))) (pss_cons (ps_if (pt_not (pt_val (pe_call (ok_is_pair (P := P) (w := w) (base := base) T) (hr.mono (by decide : 2 ≤ _)) (by rfl) T.g_is_pair T.F_is_pair.kp T.b_is_pair .nil pass0 (pa_cons (pv 2) pa_nil)))) (pss_one (ps_raise rfl (takes_of rfl rfl rfl rfl) (pmk_own PySem.F.excBase_ValueError T.x_BadTaking T.g_BadTaking T.k_BadTaking (raises_own T.b_BadTaking T.t_BadTaking) (by exact rfl)))) pss_nil) (pss_one (ps_ret (pe_call (ok_may_be (P := P) (w := w) (base := base) T) (hr.mono (by decide : 1 ≤ _)) (by rfl) T.g_may_be T.F_may_be.kp T.b_may_be .nil pass0 (pa_cons (pv 0) (pa_cons (pv 1) (pa_cons (pv 2) pa_nil))))))))), ?_⟩
    walk_at "rd"
    refine ⟨fun hB => ?_, qB⟩
    walk_at "rd"
    refine ⟨_, _, rfl, ph, fun hH => ?_, qH hB⟩
    walk_at "rd"
    refine ⟨_, _, rfl, pt, ?_⟩
    cases bt with
    | false =>
      walk_at "rd"
      exact qT hB hH rfl
    | true =>
      obtain ⟨t, rfl, ht⟩ := hB
      obtain ⟨p, x, y, rfl, hp, hx, hy⟩ := hH
      obtain ⟨r, i, j, rfl, hr2⟩ := pair_two pt
      walk_at "rd"
      exact qY t p x y r i j rfl rfl rfl hp hr2 ht hx hy

def sp_left (CB CH CT : Addr) : Sp := fun vs H Q E => ∃ (vb vh vt : V) (bh bt : Bool), vs = [vb, vh, vt] ∧ Th H vb ∧ PairK H vh bh ∧ PairK H vt bt ∧ (¬ okN 1 vb → E (.ref CB) none H) ∧ (okN 1 vb → ¬ okH H vh → E (.ref CH) none H) ∧ (okN 1 vb → okH H vh → bt = false → E (.ref CT) none H) ∧ (∀ (t : Int) (p : Addr) (x y : Int) (r : Addr) (i j : Int), vb = .int t → vh = .ref p → vt = .ref r → Pr H p x y → Pr H r i j → 1 ≤ t → 0 ≤ x → 0 ≤ y → (Legal t x y i j → ∀ u H2, H u = none → Same H H2 → Pr H2 u (x - i) (y - j) → Q (.ref u) H2) ∧ (¬ Legal t x y i j → E (.ref CT) none H))
theorem ok_left (T : Txt K mg) : FnOk P w K mg base (L2.CX P w) 5 T.a_left T.d_left ["bound", "heaps", "taking"] (sp_left T.a_BadBound T.a_BadHeaps T.a_BadTaking) := by
  refine T.F_left.okX sc_left (fun vs H Q E h => ?_) (fun cdv A outer s H vs Q E hr h => ?_)
  · obtain ⟨_, _, _, _, _, rfl, _⟩ := h
    rfl
  · have hu := hu_of hr
    obtain ⟨vb, vh, vt, bh, bt, rfl, th, ph, pt, qB, qH, qT, qY⟩ := h
    refine ⟨_, (pss_cons (ps_if (pt_not (pt_val (pe_call (ok_can (P := P) (w := w) (base := base) T) (hr.mono (by decide : 4 ≤ _)) (by rfl) T.g_can T.F_can.kp T.b_can .nil (passes_call (E := E) (W := fun cls d _ H => E cls d H) (takes_of rfl rfl rfl rfl) (fun _ _ _ _ h => h)) (pa_cons (pv 0) (pa_cons (pv 1) (pa_cons (pv 2) pa_nil)))))) (pss_one (ps_raise rfl (takes_of rfl rfl rfl rfl) (pmk_own PySem.F.excBase_ValueError T.x_BadTaking T.g_BadTaking T.k_BadTaking (raises_own T.b_BadTaking T.t_BadTaking) (by exact rfl)))) pss_nil) (pss_one (ps_ret (pe_tupA (pa_cons (pe_op op_sub (pe_ix ix_tup (pv 1) pe_int (fun _ _ => rfl)) (pe_ix ix_tup (pv 2) pe_int (fun _ _ => rfl))) (pa_cons (pe_op op_sub (pe_ix ix_tup (pv 1) pe_int (fun _ _ => rfl)) (pe_ix ix_tup (pv 2) pe_int (fun _ _ => rfl))) pa_nil)))))), ?_⟩
    walk_at "rd"
    refine ⟨_, _, _, _, _, rfl, th, ph, pt, qB, qH, qT, fun t p x y r i j e1 e2 e3 hp hr2 ht hx hy => ?_⟩
    obtain ⟨q1, q2⟩ := qY t p x y r i j e1 e2 e3 hp hr2 ht hx hy
    subst e1 e2 e3
    walk_at "rd"
    refine ite2 (fun c => ?_) (fun c => ?_)
    · have c : ¬ Legal t x y i j := fun z => by rw [decide_eq_true z] at c; cases c
      exact q2 c
    · have c : Legal t x y i j := by simpa using c
      walk_at "rd"
      exact q1 c

def sp_pair_by (CB CN : Addr) : Sp := fun vs H Q E => ∃ (vb vn : V), vs = [vb, vn] ∧ Th H vb ∧ Th H vn ∧ (¬ okN 1 vb → E (.ref CB) none H) ∧ (okN 1 vb → ¬ okN 0 vn → E (.ref CN) none H) ∧ ¬ (okN 1 vb ∧ okN 0 vn)
theorem ok_pair_by (T : Txt K mg) : FnOk P w K mg base (L2.CX P w) 4 T.a_pair_by T.d_pair_by ["bound", "number"] (sp_pair_by T.a_BadBound T.a_BadNumber) := by
  refine T.F_pair_by.okX sc_pair_by (fun vs H Q E h => ?_) (fun cdv A outer s H vs Q E hr h => ?_)
  · obtain ⟨_, _, rfl, _⟩ := h
    rfl
  · have hu := hu_of hr
    obtain ⟨vb, vn, rfl, th, tn, qB, qN, no⟩ := h
    refine ⟨_, (pss_cons (ps_expr (pe_call (ok_check_bound (P := P) (w := w) (base := base) T) (hr.mono (by decide : 2 ≤ _)) (by rfl) T.g_check_bound T.F_check_bound.kp T.b_check_bound .nil (passes_call (E := E) (W := fun cls d _ H => E cls d H) (takes_of rfl rfl rfl rfl) (fun _ _ _ _ h => h)) (pa_cons (pv 0) pa_nil))) (pss_cons (ps_if (PW.pt (pw_or (pt_not (pt_val (pe_call (ok_is_whole (P := P) (w := w) (base := base) T) (hr.mono (by decide : 1 ≤ _)) (by rfl) T.g_is_whole T.F_is_whole.kp T.b_is_whole .nil pass0 (pa_cons (pv 1) pa_nil)))) (pw_or1 (pt_cmpR op_lt (pv 1) pe_int (nomark _))))) (pss_one (ps_raise rfl (takes_of rfl rfl rfl rfl) (pmk_own PySem.F.excBase_ValueError T.x_BadNumber T.g_BadNumber T.k_BadNumber (raises_own T.b_BadNumber T.t_BadNumber) (by exact rfl)))) pss_nil) pss_never)), ?_⟩
    walk_at "rd"
    refine ⟨fun hB => ?_, qB⟩
    have tn2 := tn
    cases tn with
    | int i =>
      walk_at "rd"
      refine ite2 (fun c => ?_) (fun c => ?_)
      · have c := of_decide_eq_true c
        exact qN hB fun ⟨j, e, h⟩ => by cases e; omega
      · have c : ¬ i < 0 := fun z => c (decide_eq_true z)
        exact no ⟨hB, i, rfl, by omega⟩
    | _ =>
      walk_at "rd"
      exact qN hB fun ⟨j, e, h⟩ => by cases e

def sp_pair_with (CB CN : Addr) : Sp := fun vs H Q E => ∃ (vb vn : V), vs = [vb, vn] ∧ Th H vb ∧ Th H vn ∧ (¬ okN 1 vb → E (.ref CB) none H) ∧ (okN 1 vb → ¬ okN 1 vn → E (.ref CN) none H) ∧ ¬ (okN 1 vb ∧ okN 1 vn)
theorem ok_pair_with (T : Txt K mg) : FnOk P w K mg base (L2.CX P w) 4 T.a_pair_with T.d_pair_with ["bound", "number"] (sp_pair_with T.a_BadBound T.a_BadNumber) := by
  refine T.F_pair_with.okX sc_pair_with (fun vs H Q E h => ?_) (fun cdv A outer s H vs Q E hr h => ?_)
  · obtain ⟨_, _, rfl, _⟩ := h
    rfl
  · have hu := hu_of hr
    obtain ⟨vb, vn, rfl, th, tn, qB, qN, no⟩ := h
    refine ⟨_, (pss_cons (ps_expr (pe_call (ok_check_bound (P := P) (w := w) (base := base) T) (hr.mono (by decide : 2 ≤ _)) (by rfl) T.g_check_bound T.F_check_bound.kp T.b_check_bound .nil (passes_call (E := E) (W := fun cls d _ H => E cls d H) (takes_of rfl rfl rfl rfl) (fun _ _ _ _ h => h)) (pa_cons (pv 0) pa_nil))) (pss_cons (ps_if (PW.pt (pw_or (pt_not (pt_val (pe_call (ok_is_whole (P := P) (w := w) (base := base) T) (hr.mono (by decide : 1 ≤ _)) (by rfl) T.g_is_whole T.F_is_whole.kp T.b_is_whole .nil pass0 (pa_cons (pv 1) pa_nil)))) (pw_or1 (pt_cmpR op_lt (pv 1) pe_int (nomark _))))) (pss_one (ps_raise rfl (takes_of rfl rfl rfl rfl) (pmk_own PySem.F.excBase_ValueError T.x_BadNumber T.g_BadNumber T.k_BadNumber (raises_own T.b_BadNumber T.t_BadNumber) (by exact rfl)))) pss_nil) pss_never)), ?_⟩
    walk_at "rd"
    refine ⟨fun hB => ?_, qB⟩
    have tn2 := tn
    cases tn with
    | int i =>
      walk_at "rd"
      refine ite2 (fun c => ?_) (fun c => ?_)
      · have c := of_decide_eq_true c
        exact qN hB fun ⟨j, e, h⟩ => by cases e; omega
      · have c : ¬ i < 1 := fun z => c (decide_eq_true z)
        exact no ⟨hB, i, rfl, by omega⟩
    | _ =>
      walk_at "rd"
      exact qN hB fun ⟨j, e, h⟩ => by cases e

def sp_told (CB CH : Addr) : Sp := fun vs H Q E => ∃ (vb vh : V) (bh : Bool), vs = [vb, vh] ∧ Th H vb ∧ PairK H vh bh ∧ (¬ okN 1 vb → E (.ref CB) none H) ∧ (okN 1 vb → ¬ okH H vh → E (.ref CH) none H) ∧ ¬ (okN 1 vb ∧ okH H vh)
theorem ok_told (T : Txt K mg) : FnOk P w K mg base (L2.CX P w) 5 T.a_told T.d_told ["bound", "heaps"] (sp_told T.a_BadBound T.a_BadHeaps) := by
  refine T.F_told.okX sc_told (fun vs H Q E h => ?_) (fun cdv A outer s H vs Q E hr h => ?_)
  · obtain ⟨_, _, _, rfl, _⟩ := h
    rfl
  · have hu := hu_of hr
    obtain ⟨vb, vh, bh, rfl, th, ph, qB, qH, no⟩ := h
    refine ⟨_, (pss_cons (ps_expr (pe_call (ok_check_bound (P := P) (w := w) (base := base) T) (hr.mono (by decide : 2 ≤ _)) (by rfl) T.g_check_bound T.F_check_bound.kp T.b_check_bound .nil (passes_call (E := E) (W := fun cls d _ H => E cls d H) (takes_of rfl rfl rfl rfl) (fun _ _ _ _ h => h)) (pa_cons (pv 0) pa_nil))) (pss_cons (ps_expr (pe_call (ok_check_heaps (P := P) (w := w) (base := base) T) (hr.mono (by decide : 3 ≤ _)) (by rfl) T.g_check_heaps T.F_check_heaps.kp T.b_check_heaps .nil (passes_call (E := E) (W := fun cls d _ H => E cls d H) (takes_of rfl rfl rfl rfl) (fun _ _ _ _ h => h)) (pa_cons (pv 1) pa_nil))) pss_never)), ?_⟩
    walk_at "rd"
    refine ⟨fun hB => ?_, qB⟩
    walk_at "rd"
    refine ⟨_, _, rfl, ph, fun hH => ?_, qH hB⟩
    exact no ⟨hB, hH⟩

def sp__law_cell_at (K : PySem.W.Frag) : Sp := fun vs H Q E => ∃ (a : Addr) (ns : List Int) (k : Int), vs = [.ref a, .int k] ∧ SqL K H a (ns.map V.int) ∧ (0 ≤ k ∧ k ≤ 200) ∧ (∀ n ∈ ns, Bd 1048577 n) ∧ ∀ c, Bd 1048577 c → Q (.int c) H
theorem ok__law_cell_at (T : Txt K mg) : FnOk P w K mg base CX0 1 T.a__law_cell_at T.d__law_cell_at ["_law_script", "_law_k"] (sp__law_cell_at K) := by
  refine T.F__law_cell_at.ok sc__law_cell_at (fun vs H Q E h => ?_) (fun cdv A outer s H vs Q E hr h => ?_)
  · obtain ⟨_, _, _, rfl, _⟩ := h
    rfl
  · have hu := hu_of hr
    obtain ⟨a, ns, k, rfl, hS, ⟨hk, hk2⟩, hb, q⟩ := h
    refine ⟨_, (pss_cons (ps_if (pt_cmpR op_lt (pv 1) (pe_callB call_len (by rfl) T.n_len (by decide +kernel) (pa_cons (pv 0) pa_nil)) (nomark _)) (pss_one (ps_ret (pe_ix ix_list (pv 0) (pv 1) (fun _ _ => rfl)))) pss_nil) (pss_one (ps_ret pe_int))), ?_⟩
    walk_at "rd"
    refine ite2 (fun c => ?_) (fun c => ?_)
    · have c := of_decide_eq_true c
      obtain ⟨j, rfl⟩ := Int.eq_ofNat_of_zero_le hk
      rw [List.length_map] at c
      have hj : j < ns.length := by omega
      walk_at "rd"
      refine ⟨_, _, _, .int ns[j], rfl, rfl, hS, atI_nat (by rw [List.getElem?_map, List.getElem?_eq_getElem hj]; rfl), ?_⟩
      exact q _ (hb _ (List.getElem_mem hj))
    · walk_at "rd"
      exact q 0 (bd_mono (bd_lit (i := 0)) (by decide))

def tKn (T : Txt K mg) (a : Addr) (cls : Value) (d : Option Addr) : TS := fun D σ H => σ = [some (.ref a), none] ∧ ∃ (Dx : Addr) (b1 b2 b3 b4 : Bool), cls = .ref Dx ∧ d = none ∧ ExcC K Dx ∧ PySem.W.kitOne K (.ref Dx) (.ref T.a_BadBound) = some b1 ∧ PySem.W.kitOne K (.ref Dx) (.ref T.a_BadHeaps) = some b2 ∧ PySem.W.kitOne K (.ref Dx) (.ref T.a_BadTaking) = some b3 ∧
  PySem.W.kitOne K (.ref Dx) (.ref T.a_BadNumber) = some b4 ∧ PySem.W.kitOne K (.ref Dx) (.type "ValueError") = some true ∧ ∀ p H2, Same H H2 → H2 p = some (.lst [.bl b1, .bl b2, .bl b3, .bl b4, .bl true]) → D.rt (.ref p) H2
theorem ok__law_kinds (T : Txt K mg) {a : Addr} {oe : Obj} {cls : Value} {d : Option Addr} (hz : Zc cls d oe) (hf : ∃ vs, oe.data = .fields vs) (cdv : Value) (A : Around) (stack : List Env) (s : Shared) (H : Hp) :
    PSs (L2H.cxH CX0 P w K mg base ["_law_error", "_law_found"] "_law_kinds" (defScope s__law_kinds) T.a__law_kinds cdv A stack s H E0 (a, oe)) (defBody s__law_kinds) (tKn T a cls d) := by
  have hp : (a, oe) ∈ (L2H.cxH CX0 P w K mg base ["_law_error", "_law_found"] "_law_kinds" (defScope s__law_kinds) T.a__law_kinds cdv A stack s H E0 (a, oe)).pn := List.mem_cons_self
  refine ⟨fun pins s1 σ H1 D I h => ?_⟩
  obtain ⟨rfl, Dx, b1, b2, b3, b4, rfl, rfl, C, k1, k2, k3, k4, k5, q⟩ := h
  refine PSs.run (t := _) (pss_cons (ps_set (i := 1) sc__law_kinds.nd rfl (Or.inl rfl) (pe_lstA (pa_cons (pe_callB (call_isQ hp hz hf) (by rfl) T.n_isinstance (by decide +kernel) (pa_cons (pv 0) (pa_cons (pe_glob (v := .ref T.a_BadBound) (by rfl) T.g_BadBound rfl) pa_nil))) (pa_cons (pe_callB (call_isQ hp hz hf) (by rfl) T.n_isinstance (by decide +kernel) (pa_cons (pv 0) (pa_cons (pe_glob (v := .ref T.a_BadHeaps) (by rfl) T.g_BadHeaps rfl) pa_nil))) (pa_cons (pe_callB (call_isQ hp hz hf) (by rfl) T.n_isinstance (by decide +kernel) (pa_cons (pv 0) (pa_cons (pe_glob (v := .ref T.a_BadTaking) (by rfl) T.g_BadTaking rfl) pa_nil))) pa_nil))))) (pss_one (ps_ret (pe_op oCat (pv 1) (pe_lstA (pa_cons (pe_callB (call_isQ hp hz hf) (by rfl) T.n_isinstance (by decide +kernel) (pa_cons (pv 0) (pa_cons (pe_glob (v := .ref T.a_BadNumber) (by rfl) T.g_BadNumber rfl) pa_nil))) (pa_cons (pe_callB (call_isQ hp hz hf) (by rfl) T.n_isinstance (by decide +kernel) (pa_cons (pv 0) (pa_cons (pe_bltn (v := .ty "ValueError") (by rfl) T.n_ValueError (by decide +kernel) rfl) pa_nil))) pa_nil))))))) pins s1 _ H1 D I ?_
  walk_at "rd"
  refine ⟨_, _, b1, rfl, (fun u r => r), k1, ?_⟩
  walk_at "rd"
  refine ⟨_, _, b2, rfl, (fun u r => r), k2, ?_⟩
  walk_at "rd"
  refine ⟨_, _, b3, rfl, (fun u r => r), k3, ?_⟩
  walk_at "rd"
  intro p1 H2 np1 e1 hp1
  walk_at "rd"
  refine ⟨_, _, b4, rfl, (fun u r => r), k4, ?_⟩
  walk_at "rd"
  refine ⟨_, _, true, rfl, (fun u r => r), k5, ?_⟩
  walk_at "rd"
  intro p2 H3 np2 e2 hp2
  walk_at "rd"
  refine ⟨_, _, _, _, rfl, rfl, (show _ = _ by walk_at "hp"), hp2, Nat.le_of_ble_eq_true rfl, fun p3 H4 np3 e3 hp3 => ?_⟩
  exact q _ _ (by walk_at "sm") hp3

def sp__law_with_bound (CB : Addr) : Sp := fun vs H Q E => ∃ (d : Int) (v : V), vs = [.int d, v] ∧ Th H v ∧ ¬ okN 1 v ∧ ∀ H2, Same H H2 → E (.ref CB) none H2
theorem ok__law_with_bound (T : Txt K mg) : FnOk P w K mg base (L2.CX P w) 6 T.a__law_with_bound T.d__law_with_bound ["_law_door", "_law_bound"] (sp__law_with_bound T.a_BadBound) := by
  refine T.F__law_with_bound.okX sc__law_with_bound (fun vs H Q E h => ?_) (fun cdv A outer s H vs Q E hr h => ?_)
  · obtain ⟨_, _, rfl, _⟩ := h
    rfl
  · have hu := hu_of hr
    obtain ⟨d, v, rfl, th, hn, qE⟩ := h
    refine ⟨_, (pss_cons (ps_if (pt_cmpR op_lt (pv 0) pe_int (nomark _)) (pss_one (ps_ret (pe_ifExp (pt_cmpR oEq (pv 0) pe_int (nomark _)) (pe_call (ok_can (P := P) (w := w) (base := base) T) (hr.mono (by decide : 4 ≤ _)) (by rfl) T.g_can T.F_can.kp T.b_can .nil (passes_call (E := E) (W := fun cls d _ H => E cls d H) (takes_of rfl rfl rfl rfl) (fun _ _ _ _ h => h)) (pa_cons (pv 1) (pa_cons pe_non (pa_cons pe_non pa_nil)))) (pe_call (ok_left (P := P) (w := w) (base := base) T) (hr.mono (by decide : 5 ≤ _)) (by rfl) T.g_left T.F_left.kp T.b_left .nil (passes_call (E := E) (W := fun cls d _ H => E cls d H) (takes_of rfl rfl rfl rfl) (fun _ _ _ _ h => h)) (pa_cons (pv 1) (pa_cons (pe_tupA (pa_cons (pe_un un_neg pe_int) (pa_cons pe_int pa_nil))) (pa_cons pe_non pa_nil))))))) pss_nil) (pss_cons (ps_if (pt_cmpR op_lt (pv 0) pe_int (nomark _)) (pss_one (ps_ret (pe_ifExp (pt_cmpR oEq (pv 0) pe_int (nomark _)) (pe_call (ok_pair_by (P := P) (w := w) (base := base) T) (hr.mono (by decide : 4 ≤ _)) (by rfl) T.g_pair_by T.F_pair_by.kp T.b_pair_by .nil (passes_call (E := E) (W := fun cls d _ H => E cls d H) (takes_of rfl rfl rfl rfl) (fun _ _ _ _ h => h)) (pa_cons (pv 1) (pa_cons (pe_un un_neg pe_int) pa_nil))) (pe_call (ok_pair_with (P := P) (w := w) (base := base) T) (hr.mono (by decide : 4 ≤ _)) (by rfl) T.g_pair_with T.F_pair_with.kp T.b_pair_with .nil (passes_call (E := E) (W := fun cls d _ H => E cls d H) (takes_of rfl rfl rfl rfl) (fun _ _ _ _ h => h)) (pa_cons (pv 1) (pa_cons pe_non pa_nil)))))) pss_nil) (pss_one (ps_ret (pe_call (ok_told (P := P) (w := w) (base := base) T) (hr.mono (by decide : 5 ≤ _)) (by rfl) T.g_told T.F_told.kp T.b_told .nil (passes_call (E := E) (W := fun cls d _ H => E cls d H) (takes_of rfl rfl rfl rfl) (fun _ _ _ _ h => h)) (pa_cons (pv 1) (pa_cons pe_non pa_nil))))))), ?_⟩
    walk_at "rd"
    refine ite2 (fun c => ?_) (fun c => ?_)
    · walk_at "rd"
      refine ite2 (fun c => ?_) (fun c => ?_)
      · walk_at "rd"
        exact ⟨_, _, _, _, _, rfl, th, .non, .non, fun _ => qE _ (Same.refl _), fun h => absurd h hn, fun h => absurd h hn, fun t p x y r i j e1 _ _ _ _ ht _ _ => absurd ⟨t, e1, ht⟩ hn⟩
      · walk_at "rd"
        intro p1 H1 np1 e1 hp1
        walk_at "rd"
        exact ⟨_, _, _, _, _, rfl, th.mono e1, .tup2 hp1 (.int _) (.int _), .non, fun _ => qE _ e1, fun h => absurd h hn, fun h => absurd h hn, fun t p x y r i j e1 _ _ _ _ ht _ _ => absurd ⟨t, e1, ht⟩ hn⟩
    · walk_at "rd"
      refine ite2 (fun c => ?_) (fun c => ?_)
      · walk_at "rd"
        refine ite2 (fun c => ?_) (fun c => ?_)
        · walk_at "rd"
          exact ⟨.int _, fun _ => qE _ (Same.refl _), fun h => absurd h hn, fun h => hn h.1⟩
        · walk_at "rd"
          exact ⟨.non, fun _ => qE _ (Same.refl _), fun h => absurd h hn, fun h => hn h.1⟩
      · walk_at "rd"
        exact ⟨_, _, _, rfl, th, .non, fun _ => qE _ (Same.refl _), fun h => absurd h hn, fun h => hn h.1⟩

def sp__law_with_heaps (CH : Addr) : Sp := fun vs H Q E => ∃ (d : Int) (v : V) (b : Bool), vs = [.int d, v] ∧ PairK H v b ∧ ¬ okH H v ∧ ∀ H2, Same H H2 → E (.ref CH) none H2
theorem ok__law_with_heaps (T : Txt K mg) : FnOk P w K mg base (L2.CX P w) 6 T.a__law_with_heaps T.d__law_with_heaps ["_law_door", "_law_heaps"] (sp__law_with_heaps T.a_BadHeaps) := by
  refine T.F__law_with_heaps.okX sc__law_with_heaps (fun vs H Q E h => ?_) (fun cdv A outer s H vs Q E hr h => ?_)
  · obtain ⟨_, _, _, rfl, _⟩ := h
    rfl
  · have hu := hu_of hr
    obtain ⟨d, v, b, rfl, pk, hn, qE⟩ := h
    refine ⟨_, (pss_one (ps_ret (pe_ifExp (pt_cmpR oEq (pv 0) pe_int (nomark _)) (pe_call (ok_can (P := P) (w := w) (base := base) T) (hr.mono (by decide : 4 ≤ _)) (by rfl) T.g_can T.F_can.kp T.b_can .nil (passes_call (E := E) (W := fun cls d _ H => E cls d H) (takes_of rfl rfl rfl rfl) (fun _ _ _ _ h => h)) (pa_cons pe_int (pa_cons (pv 1) (pa_cons pe_non pa_nil)))) (pe_ifExp (pt_cmpR oEq (pv 0) pe_int (nomark _)) (pe_call (ok_left (P := P) (w := w) (base := base) T) (hr.mono (by decide : 5 ≤ _)) (by rfl) T.g_left T.F_left.kp T.b_left .nil (passes_call (E := E) (W := fun cls d _ H => E cls d H) (takes_of rfl rfl rfl rfl) (fun _ _ _ _ h => h)) (pa_cons pe_int (pa_cons (pv 1) (pa_cons (pe_tupA (pa_cons pe_int (pa_cons pe_int pa_nil))) pa_nil)))) (pe_call (ok_told (P := P) (w := w) (base := base) T) (hr.mono (by decide : 5 ≤ _)) (by rfl) T.g_told T.F_told.kp T.b_told .nil (passes_call (E := E) (W := fun cls d _ H => E cls d H) (takes_of rfl rfl rfl rfl) (fun _ _ _ _ h => h)) (pa_cons pe_int (pa_cons (pv 1) pa_nil))))))), ?_⟩
    walk_at "rd"
    refine ite2 (fun c => ?_) (fun c => ?_)
    · walk_at "rd"
      exact ⟨_, _, _, _, _, rfl, .int _, pk, .non, fun h => absurd ⟨_, rfl, by decide⟩ h, fun _ _ => qE _ (Same.refl _), fun _ h => absurd h hn, fun t p x y r i j _ e2 _ hp _ _ hx hy => absurd ⟨p, x, y, e2, hp, hx, hy⟩ hn⟩
    · walk_at "rd"
      refine ite2 (fun c => ?_) (fun c => ?_)
      · walk_at "rd"
        intro p1 H1 np1 e1 hp1
        walk_at "rd"
        have hn1 : ¬ okH H1 v := fun h => hn (okH_back pk e1 h)
        exact ⟨_, _, _, _, _, rfl, .int _, pk.mono e1, .tup2 hp1 (.int _) (.int _), fun h => absurd ⟨_, rfl, by decide⟩ h, fun _ _ => qE _ e1, fun _ h => absurd h hn1, fun t p x y r i j _ e2 _ hp _ _ hx hy => absurd ⟨p, x, y, e2, hp, hx, hy⟩ hn1⟩
      · walk_at "rd"
        exact ⟨_, _, _, rfl, .int _, pk, fun h => absurd ⟨_, rfl, by decide⟩ h, fun _ _ => qE _ (Same.refl _), fun h => hn h.2⟩

def sp__law_with_taking (CT : Addr) : Sp := fun vs H Q E => ∃ (d : Int) (v : V) (b : Bool), vs = [.int d, v] ∧ PairK H v b ∧ (b = false ∨ (d ≠ 0 ∧ ∃ r i j, v = .ref r ∧ Pr H r i j ∧ ¬ Legal 2 5 7 i j)) ∧ ∀ H2, Same H H2 → E (.ref CT) none H2
theorem ok__law_with_taking (T : Txt K mg) : FnOk P w K mg base (L2.CX P w) 6 T.a__law_with_taking T.d__law_with_taking ["_law_door", "_law_taking"] (sp__law_with_taking T.a_BadTaking) := by
  refine T.F__law_with_taking.okX sc__law_with_taking (fun vs H Q E h => ?_) (fun cdv A outer s H vs Q E hr h => ?_)
  · obtain ⟨_, _, _, rfl, _⟩ := h
    rfl
  · have hu := hu_of hr
    obtain ⟨d, v, b, rfl, pk, hn, qE⟩ := h
    refine ⟨_, (pss_one (ps_ret (pe_ifExp (pt_cmpR oEq (pv 0) pe_int (nomark _)) (pe_call (ok_can (P := P) (w := w) (base := base) T) (hr.mono (by decide : 4 ≤ _)) (by rfl) T.g_can T.F_can.kp T.b_can .nil (passes_call (E := E) (W := fun cls d _ H => E cls d H) (takes_of rfl rfl rfl rfl) (fun _ _ _ _ h => h)) (pa_cons pe_int (pa_cons (pe_tupA (pa_cons pe_int (pa_cons pe_int pa_nil))) (pa_cons (pv 1) pa_nil)))) (pe_call (ok_left (P := P) (w := w) (base := base) T) (hr.mono (by decide : 5 ≤ _)) (by rfl) T.g_left T.F_left.kp T.b_left .nil (passes_call (E := E) (W := fun cls d _ H => E cls d H) (takes_of rfl rfl rfl rfl) (fun _ _ _ _ h => h)) (pa_cons pe_int (pa_cons (pe_tupA (pa_cons pe_int (pa_cons pe_int pa_nil))) (pa_cons (pv 1) pa_nil))))))), ?_⟩
    walk_at "rd"
    have gone : ∀ H1, Same H H1 → ∀ (r : Addr) (i j : Int), b = false → v = .ref r → Pr H1 r i j → False := fun H1 e1 r i j hb hv hr => by
      subst hb hv
      cases pair_one (pk.mono e1) hr
    refine ite2 (fun c => ?_) (fun c => ?_)
    · have c := of_decide_eq_true c
      have hb : b = false := hn.elim id fun h => absurd c h.1
      walk_at "rd"
      intro p1 H1 np1 e1 hp1
      walk_at "rd"
      exact ⟨_, _, _, _, _, rfl, .int _, .tup2 hp1 (.int _) (.int _), pk.mono e1, fun h => absurd ⟨_, rfl, by decide⟩ h, fun _ h => absurd ⟨_, _, _, rfl, hp1, by decide, by decide⟩ h, fun _ _ _ => qE _ e1, fun t p x y r i j _ _ e3 _ hr _ _ _ => (gone H1 e1 r i j hb e3 hr).elim⟩
    · walk_at "rd"
      intro p1 H1 np1 e1 hp1
      walk_at "rd"
      refine ⟨_, _, _, _, _, rfl, .int _, .tup2 hp1 (.int _) (.int _), pk.mono e1, fun h => absurd ⟨_, rfl, by decide⟩ h, fun _ h => absurd ⟨_, _, _, rfl, hp1, by decide, by decide⟩ h, fun _ _ _ => qE _ e1, fun t p x y r i j z1 z2 z3 hp hr ht hx hy => ⟨fun hL => ?_, fun _ => qE _ e1⟩⟩
      rcases hn with hb | ⟨_, r', i', j', z4, hr', hN⟩
      · exact (gone H1 e1 r i j hb z3 hr).elim
      · exfalso
        cases z1
        cases z2
        subst z3
        cases z4
        obtain ⟨rfl, rfl⟩ := pr_inj hp hp1
        obtain ⟨rfl, rfl⟩ := pr_inj hr (e1 _ _ hr')
        exact hN hL

def sp__law_with_number (CN : Addr) : Sp := fun vs H Q E => ∃ (d : Int) (v : V), vs = [.int d, v] ∧ Th H v ∧ (d = 0 → ¬ okN 0 v) ∧ (d ≠ 0 → ¬ okN 1 v) ∧ ∀ H2, Same H H2 → E (.ref CN) none H2
theorem ok__law_with_number (T : Txt K mg) : FnOk P w K mg base (L2.CX P w) 5 T.a__law_with_number T.d__law_with_number ["_law_door", "_law_number"] (sp__law_with_number T.a_BadNumber) := by
  refine T.F__law_with_number.okX sc__law_with_number (fun vs H Q E h => ?_) (fun cdv A outer s H vs Q E hr h => ?_)
  · obtain ⟨_, _, rfl, _⟩ := h
    rfl
  · have hu := hu_of hr
    obtain ⟨d, v, rfl, th, h0, h1, qE⟩ := h
    refine ⟨_, (pss_one (ps_ret (pe_ifExp (pt_cmpR oEq (pv 0) pe_int (nomark _)) (pe_call (ok_pair_by (P := P) (w := w) (base := base) T) (hr.mono (by decide : 4 ≤ _)) (by rfl) T.g_pair_by T.F_pair_by.kp T.b_pair_by .nil (passes_call (E := E) (W := fun cls d _ H => E cls d H) (takes_of rfl rfl rfl rfl) (fun _ _ _ _ h => h)) (pa_cons pe_int (pa_cons (pv 1) pa_nil))) (pe_call (ok_pair_with (P := P) (w := w) (base := base) T) (hr.mono (by decide : 4 ≤ _)) (by rfl) T.g_pair_with T.F_pair_with.kp T.b_pair_with .nil (passes_call (E := E) (W := fun cls d _ H => E cls d H) (takes_of rfl rfl rfl rfl) (fun _ _ _ _ h => h)) (pa_cons pe_int (pa_cons (pv 1) pa_nil)))))), ?_⟩
    walk_at "rd"
    refine ite2 (fun c => ?_) (fun c => ?_)
    · have c := of_decide_eq_true c
      walk_at "rd"
      exact ⟨.int _, th, fun h => absurd ⟨_, rfl, by decide⟩ h, fun _ _ => qE _ (Same.refl _), fun h => h0 c h.2⟩
    · have c : d ≠ 0 := fun z => c (decide_eq_true z)
      walk_at "rd"
      exact ⟨.int _, th, fun h => absurd ⟨_, rfl, by decide⟩ h, fun _ _ => qE _ (Same.refl _), fun h => h1 c h.2⟩

/-- the k-th kind is due where the def at f is asked at the door d with v -/
inductive AskK (T : Txt K mg) (H : Hp) : Addr → Int → V → Nat → Prop where
  | bound {d : Int} {v : V} (th : Th H v) (hn : ¬ okN 1 v) : AskK T H T.a__law_with_bound d v 0
  | heaps {d : Int} {v : V} {b : Bool} (pk : PairK H v b) (hn : ¬ okH H v) : AskK T H T.a__law_with_heaps d v 1
  | taking {d : Int} {v : V} {b : Bool} (pk : PairK H v b) (hn : b = false ∨ (d ≠ 0 ∧ ∃ r i j, v = .ref r ∧ Pr H r i j ∧ ¬ Legal 2 5 7 i j)) : AskK T H T.a__law_with_taking d v 2
  | number {d : Int} {v : V} (th : Th H v) (h0 : d = 0 → ¬ okN 0 v) (h1 : d ≠ 0 → ¬ okN 1 v) : AskK T H T.a__law_with_number d v 3
theorem AskK.mono {T : Txt K mg} {H H' : Hp} {f : Addr} {d : Int} {v : V} {k : Nat} (e : Same H H') (a : AskK T H f d v k) : AskK T H' f d v k := by
  cases a with
  | bound th hn => exact .bound (th.mono e) hn
  | heaps pk hn => exact .heaps (pk.mono e) fun z => hn (okH_back pk e z)
  | taking pk hn => exact .taking (pk.mono e) (hn.imp id fun ⟨h, r, i, j, h1, h2, h3⟩ => ⟨h, r, i, j, h1, e _ _ h2, h3⟩)
  | number th h0 h1 => exact .number (th.mono e) h0 h1
def sp__law_told (T : Txt K mg) : Sp := fun vs H Q E => ∃ (f : Addr) (d : Int) (v : V) (k : Nat), vs = [.ref f, .int d, v] ∧ AskK T H f d v k ∧ ∀ p H2, Same H H2 → H2 p = some (.lst (due k)) → Q (.ref p) H2
theorem ok__law_told (T : Txt K mg) : FnOk P w K mg base CX0 7 T.a__law_told T.d__law_told ["_law_ask", "_law_door", "_law_thing"] (sp__law_told T) := by
  refine T.F__law_told.ok sc__law_told (fun vs H Q E h => ?_) (fun cdv A outer s H vs Q E hr h => ?_)
  · obtain ⟨_, _, _, _, rfl, _⟩ := h
    rfl
  · have hu := hu_of hr
    obtain ⟨f, d, v, k, rfl, ak, q⟩ := h
    refine ⟨_, (pss_cons (ps_try_as (i := 3) (tb := fun W => tDrop (tOr (tOr (tCallLS 0 T.a__law_with_bound (sp__law_with_bound T.a_BadBound) (WE W) (tCons (tVar 1) (tCons (tVar 2) tNil))) (tCallLS 0 T.a__law_with_heaps (sp__law_with_heaps T.a_BadHeaps) (WE W) (tCons (tVar 1) (tCons (tVar 2) tNil)))) (tOr (tCallLS 0 T.a__law_with_taking (sp__law_with_taking T.a_BadTaking) (WE W) (tCons (tVar 1) (tCons (tVar 2) tNil))) (tCallLS 0 T.a__law_with_number (sp__law_with_number T.a_BadNumber) (WE W) (tCons (tVar 1) (tCons (tVar 2) tNil)))))) (ts := fun a cls d => tRet (tPin ["_law_error", "_law_found"] ["_law_error"] (tCons (tVar 3) tNil) (tKn T a cls d))) (Wout := fun _ _ _ _ => False) rfl rfl sc__law_told.nd rfl rfl ⟨rfl, by decide, Or.inl T.g_HeapError⟩ takes0 (fun W pn xe tk _ => pss_one (ps_expr (by exact (pe_orT (pe_orT (pe_callLS (i := 0) (ok__law_with_bound (P := P) (w := w) (base := base) T) (hr.mono (by decide : 6 ≤ _)) rfl (Or.inl rfl) T.F__law_with_bound.kp T.b__law_with_bound (fun σ => passAt tk σ) (pa_cons (pv 1) (pa_cons (pv 2) pa_nil))) (pe_callLS (i := 0) (ok__law_with_heaps (P := P) (w := w) (base := base) T) (hr.mono (by decide : 6 ≤ _)) rfl (Or.inl rfl) T.F__law_with_heaps.kp T.b__law_with_heaps (fun σ => passAt tk σ) (pa_cons (pv 1) (pa_cons (pv 2) pa_nil)))) (pe_orT (pe_callLS (i := 0) (ok__law_with_taking (P := P) (w := w) (base := base) T) (hr.mono (by decide : 6 ≤ _)) rfl (Or.inl rfl) T.F__law_with_taking.kp T.b__law_with_taking (fun σ => passAt tk σ) (pa_cons (pv 1) (pa_cons (pv 2) pa_nil))) (pe_callLS (i := 0) (ok__law_with_number (P := P) (w := w) (base := base) T) (hr.mono (by decide : 5 ≤ _)) rfl (Or.inl rfl) T.F__law_with_number.kp T.b__law_with_number (fun σ => passAt tk σ) (pa_cons (pv 1) (pa_cons (pv 2) pa_nil)))))))) (fun a oe cls d pn hz hf => pss_one (ps_ret (by exact (pe_pin (k := 0) (p := (a, oe)) List.mem_cons_self T.F__law_kinds sc__law_kinds ⟨(hr.mono (by decide : 1 ≤ _)).dp, (hr.mono (by decide : 1 ≤ _)).un⟩ rfl T.g__law_kinds T.b__law_kinds (fun cdv s H => ok__law_kinds T hz hf cdv _ _ s H) (pa_cons (pv 3) pa_nil)))))) (pss_one (ps_ret (pe_lstA pa_nil)))), ?_⟩
    walk_at "rd"
    cases ak with
    | bound th hn =>
      refine .inl (.inl ⟨rfl, ?_⟩)
      walk_at "rd"
      intro H2 e2
      refine ⟨true, T.ex_HeapError_BadBound, fun _ a na => ?_, fun z => Bool.noConfusion z⟩
      walk_at "rd"
      exact ⟨T.a_BadBound, _, _, _, _, rfl, rfl, T.exc_BadBound, T.kq_BadBound_BadBound, T.kq_BadBound_BadHeaps, T.kq_BadBound_BadTaking, T.kq_BadBound_BadNumber, T.kv_BadBound, fun p H3 e3 hp => q p H3 (by walk_at "sm") hp⟩
    | heaps pk hn =>
      refine .inl (.inr ⟨rfl, ?_⟩)
      walk_at "rd"
      refine ⟨_, _, _, rfl, pk, hn, fun H2 e2 => ?_⟩
      refine ⟨true, T.ex_HeapError_BadHeaps, fun _ a na => ?_, fun z => Bool.noConfusion z⟩
      walk_at "rd"
      exact ⟨T.a_BadHeaps, _, _, _, _, rfl, rfl, T.exc_BadHeaps, T.kq_BadHeaps_BadBound, T.kq_BadHeaps_BadHeaps, T.kq_BadHeaps_BadTaking, T.kq_BadHeaps_BadNumber, T.kv_BadHeaps, fun p H3 e3 hp => q p H3 (by walk_at "sm") hp⟩
    | taking pk hn =>
      refine .inr (.inl ⟨rfl, ?_⟩)
      walk_at "rd"
      refine ⟨_, _, _, rfl, pk, hn, fun H2 e2 => ?_⟩
      refine ⟨true, T.ex_HeapError_BadTaking, fun _ a na => ?_, fun z => Bool.noConfusion z⟩
      walk_at "rd"
      exact ⟨T.a_BadTaking, _, _, _, _, rfl, rfl, T.exc_BadTaking, T.kq_BadTaking_BadBound, T.kq_BadTaking_BadHeaps, T.kq_BadTaking_BadTaking, T.kq_BadTaking_BadNumber, T.kv_BadTaking, fun p H3 e3 hp => q p H3 (by walk_at "sm") hp⟩
    | number th h0 h1 =>
      refine .inr (.inr ⟨rfl, ?_⟩)
      walk_at "rd"
      intro H2 e2
      refine ⟨true, T.ex_HeapError_BadNumber, fun _ a na => ?_, fun z => Bool.noConfusion z⟩
      walk_at "rd"
      exact ⟨T.a_BadNumber, _, _, _, _, rfl, rfl, T.exc_BadNumber, T.kq_BadNumber_BadBound, T.kq_BadNumber_BadHeaps, T.kq_BadNumber_BadTaking, T.kq_BadNumber_BadNumber, T.kv_BadNumber, fun p H3 e3 hp => q p H3 (by walk_at "sm") hp⟩

def sp__law_all (T : Txt K mg) : Sp := fun vs H Q E => ∃ (f a b c : Addr) (ds : List Int) (xs : List V) (k : Nat), vs = [.ref f, .ref a, .ref b, .ref c] ∧ H a = some (.lst (ds.map V.int)) ∧ H b = some (.lst xs) ∧ H c = some (.lst (due k)) ∧ xs.length ≤ 1000 ∧ (∀ d ∈ ds, ∀ v ∈ xs, AskK T H f d v k) ∧ ∀ H2, Same H H2 → Q (.bl true) H2
theorem ok__law_all (T : Txt K mg) : FnOk P w K mg base CX0 8 T.a__law_all T.d__law_all ["_law_ask", "_law_doors", "_law_things", "_law_due"] (sp__law_all T) := by
  refine T.F__law_all.ok sc__law_all (fun vs H Q E h => ?_) (fun cdv A outer s H vs Q E hr h => ?_)
  · obtain ⟨_, _, _, _, _, _, _, rfl, _⟩ := h
    rfl
  · have hu := hu_of hr
    obtain ⟨f, a, b, c, ds, xs, k, rfl, ha, hb, hc, hlen, hall, q⟩ := h
    refine ⟨_, (pss_cons (ps_for PassesOwn.never rfl (pi_list (pv 1)) (pg_name (i := 4) sc__law_all.nd rfl (Or.inr rfl)) (pss_one (ps_if (pt_not (pt_val (pe_callB (cr_all rfl) (by rfl) T.n_all (by decide +kernel) (pa_cons (pe_lc (own := [("_law_thing", 5)]) (g := gName 5) (tt := tYes) rfl sc__law_all.nd (pi_list (pv 2)) (blkOk_by (own := [("_law_thing", 5)]) (N := ["_law_ask", "_law_doors", "_law_things", "_law_due", "_law_door", "_law_thing"]) (sc := defScope s__law_all) (by decide +kernel)) (fun _ _ _ _ _ => pg_name (i := 5) sc__law_all.nd rfl (Or.inl rfl)) (fun _ _ _ _ _ => pts_nil) (fun _ _ _ _ _ => (pe_cmpR (oEqDue hr.units) (pe_call (ok__law_told (P := P) (w := w) (base := base) T) (hr.mono (by decide : 7 ≤ _)) (by rfl) T.g__law_told T.F__law_told.kp T.b__law_told .nil pass0 (pa_cons (pv 0) (pa_cons (pv 4) (pa_cons (pv 5) pa_nil)))) (pv 3) (nomark _)))) pa_nil)))) (pss_one (ps_ret pe_bl)) pss_nil))) (pss_one (ps_ret pe_bl))), ?_⟩
    have HA : SqL K H a (ds.map V.int) := SqL.of ha
    have HX : SqL K H b xs := SqL.of hb
    walk_at "rd"
    refine ⟨⟨_, HA⟩, for_list (xs := ds.map V.int) (fun i σ H' => Opq (∃ (y1 y2 : Option V), σ = [some (.ref f), some (.ref a), some (.ref b), some (.ref c), y1, y2] ∧ Same H H')) (opq_mk ⟨_, _, rfl, Same.refl _⟩) (fun i σ H' _ h => by obtain ⟨_, _, _, e⟩ := opq_out h; exact SqL.of_same HA e) ?_ ?_⟩
    · intro i z σ H7 hz h
      obtain ⟨y1, y2, rfl, e7⟩ := opq_out h
      clear h
      obtain ⟨d, hd, rfl⟩ := List.mem_map.mp (List.mem_of_getElem? hz)
      walk_at "rd"
      refine ⟨⟨_, SqL.of_same HX e7⟩, fun D nD => lc_true nD (SqL.of_same HX e7) hlen (fun _ => rfl) (fun v H8 Q' hv e8 kk => ?_) (fun H8 e8 hD8 => ?_)⟩
      · walk_at "rd"
        refine ⟨_, _, _, k, rfl, (hall d hd v hv).mono (by walk_at "sm"), fun p H9 e9 hp => ?_⟩
        walk_at "rd"
        exact ⟨_, _, k, rfl, rfl, hp, (by walk_at "hp"), kk _ e9⟩
      refine ⟨_, _, rfl, SqL.of hD8, ?_⟩
      rw [all_rep]
      walk_at "rd"
      exact opq_mk ⟨_, _, rfl, by walk_at "sm"⟩
    · intro σ H7 h
      obtain ⟨y1, y2, rfl, e7⟩ := opq_out h
      exact q _ e7

def sp_law (K : PySem.W.Frag) : Sp := fun vs H Q E => ∃ (a : Addr) (ns : List Int), vs = [.ref a] ∧ SqL K H a (ns.map V.int) ∧ ns.length ≤ 63 ∧ (∀ n ∈ ns, Bd 1048577 n) ∧ ∀ H', Q (.bl true) H'
set_option maxHeartbeats 8000000 in
theorem ok_law (T : Txt K mg) : FnOk P w K mg base CX0 9 T.a_law T.d_law ["_law_script"] (sp_law K) := by
  refine T.F_law.ok sc_law (fun vs H Q E h => ?_) (fun cdv A outer s H vs Q E hr h => ?_)
  · obtain ⟨_, _, rfl, _⟩ := h
    rfl
  · have hu := hu_of hr
    obtain ⟨a, ns, rfl, hS, hlen, hb, q⟩ := h
    refine ⟨_, (C8.pss_cut (ps_set (i := 1) sc_law.nd rfl (Or.inr rfl) (pe_op oMod (pe_callB call_abs (by rfl) T.n_abs (by decide +kernel) (pa_cons (pe_call (ok__law_cell_at (P := P) (w := w) (base := base) T) (hr.mono (by decide : 1 ≤ _)) (by rfl) T.g__law_cell_at T.F__law_cell_at.kp T.b__law_cell_at .nil pass0 (pa_cons (pv 0) (pa_cons pe_int pa_nil))) pa_nil)) (pe_op oP40 pe_int pe_int))) (pss_cons (ps_set (i := 2) sc_law.nd rfl (Or.inl rfl) (pe_lstA pa_nil)) (C8.pss_cut (ps_for PassesOwn.never rfl (pi_range1 (by rfl) T.n_range (pa_cons pe_int pa_nil)) (pg_name (i := 3) sc_law.nd rfl (Or.inl rfl)) (pss_one (ps_expr (pe_bm PySem.F.plainAttrs_list PySem.F.slot_list_append PySem.F.type_list_append mt_append (pv 2) (pa_cons (pe_lstA (pa_cons (pe_cmpR oEq (pv 3) pe_int (nomark _)) (pa_cons (pe_cmpR oEq (pv 3) pe_int (nomark _)) (pa_cons (pe_cmpR oEq (pv 3) pe_int (nomark _)) (pa_cons (pe_cmpR oEq (pv 3) pe_int (nomark _)) (pa_cons pe_bl pa_nil)))))) pa_nil))))) (C8.pss_cut (ps_set (i := 4) sc_law.nd rfl (Or.inl rfl) (pe_lstA (pa_cons pe_non (pa_cons pe_str (pa_cons pe_bl (pa_cons pe_bl (pa_cons (pe_lstA (pa_cons pe_int pa_nil)) (pa_cons (pe_tupA (pa_cons pe_int pa_nil)) (pa_cons pe_dnewA (pa_cons (pe_un un_neg pe_int) (pa_cons (pe_op op_sub (pe_un un_neg pe_int) (pv 1)) pa_nil))))))))))) (C8.pss_cut (ps_if (pt_not (pt_val (pe_call (ok__law_all (P := P) (w := w) (base := base) T) (hr.mono (by decide : 8 ≤ _)) (by rfl) T.g__law_all T.F__law_all.kp T.b__law_all .nil pass0 (pa_cons (pe_glob (v := .ref T.a__law_with_bound) (by rfl) T.g__law_with_bound rfl) (pa_cons (pe_lstA (pa_cons pe_int (pa_cons pe_int (pa_cons pe_int (pa_cons pe_int (pa_cons pe_int pa_nil)))))) (pa_cons (pe_op oCat (pv 4) (pe_lstA (pa_cons pe_int pa_nil))) (pa_cons (pe_ix ix_list (pv 2) pe_int (fun _ _ => rfl)) pa_nil))))))) (pss_one (ps_ret pe_bl)) pss_nil) (C8.pss_cut (ps_set (i := 5) sc_law.nd rfl (Or.inl rfl) (pe_op oCat (pe_lc (own := [("_law_thing", 9)]) (g := gName 9) (tt := tYes) rfl sc_law.nd (pi_list (pv 4)) (blkOk_by (own := [("_law_thing", 9)]) (N := ["_law_script", "_law_far", "_law_due", "_law_k", "_law_strange", "_law_pairs", "_law_odd", "_law_mixed", "_law_none", "_law_thing", "_law_taking"]) (sc := defScope s_law) (by decide +kernel)) (fun _ _ _ _ _ => pg_name (i := 9) sc_law.nd rfl (Or.inl rfl)) (fun _ _ _ _ _ => pts_nil) (fun _ _ _ _ _ => (pe_tupA (pa_cons (pv 9) (pa_cons pe_int pa_nil))))) (pe_lc (own := [("_law_thing", 9)]) (g := gName 9) (tt := tYes) rfl sc_law.nd (pi_list (pv 4)) (blkOk_by (own := [("_law_thing", 9)]) (N := ["_law_script", "_law_far", "_law_due", "_law_k", "_law_strange", "_law_pairs", "_law_odd", "_law_mixed", "_law_none", "_law_thing", "_law_taking"]) (sc := defScope s_law) (by decide +kernel)) (fun _ _ _ _ _ => pg_name (i := 9) sc_law.nd rfl (Or.inl rfl)) (fun _ _ _ _ _ => pts_nil) (fun _ _ _ _ _ => (pe_tupA (pa_cons (pv 1) (pa_cons (pv 9) pa_nil))))))) (C8.pss_cut (ps_set (i := 6) sc_law.nd rfl (Or.inl rfl) (pe_lstA (pa_cons pe_non (pa_cons (pe_tupA pa_nil) (pa_cons (pe_tupA (pa_cons pe_int pa_nil)) (pa_cons (pe_tupA (pa_cons pe_int (pa_cons pe_int (pa_cons pe_int pa_nil)))) (pa_cons (pe_lstA (pa_cons pe_int (pa_cons pe_int pa_nil))) (pa_cons pe_str (pa_cons pe_dnewA (pa_cons pe_int (pa_cons (pe_tupA (pa_cons (pv 1) (pa_cons (pv 1) (pa_cons pe_int pa_nil)))) pa_nil))))))))))) (C8.pss_cut (ps_if (pt_not (pt_val (pe_call (ok__law_all (P := P) (w := w) (base := base) T) (hr.mono (by decide : 8 ≤ _)) (by rfl) T.g__law_all T.F__law_all.kp T.b__law_all .nil pass0 (pa_cons (pe_glob (v := .ref T.a__law_with_heaps) (by rfl) T.g__law_with_heaps rfl) (pa_cons (pe_lstA (pa_cons pe_int (pa_cons pe_int (pa_cons pe_int pa_nil)))) (pa_cons (pe_op oCat (pv 6) (pv 5)) (pa_cons (pe_ix ix_list (pv 2) pe_int (fun _ _ => rfl)) pa_nil))))))) (pss_one (ps_ret pe_bl)) pss_nil) (C8.pss_cut (ps_set (i := 7) sc_law.nd rfl (Or.inl rfl) (pe_op oCat (pe_lc (own := [("_law_thing", 9)]) (g := gName 9) (tt := tYes) rfl sc_law.nd (pi_list (pe_slice slA (pv 4) po_none (po_some pe_int))) (blkOk_by (own := [("_law_thing", 9)]) (N := ["_law_script", "_law_far", "_law_due", "_law_k", "_law_strange", "_law_pairs", "_law_odd", "_law_mixed", "_law_none", "_law_thing", "_law_taking"]) (sc := defScope s_law) (by decide +kernel)) (fun _ _ _ _ _ => pg_name (i := 9) sc_law.nd rfl (Or.inl rfl)) (fun _ _ _ _ _ => pts_nil) (fun _ _ _ _ _ => (pe_tupA (pa_cons (pv 9) (pa_cons pe_int pa_nil))))) (pe_lc (own := [("_law_thing", 9)]) (g := gName 9) (tt := tYes) rfl sc_law.nd (pi_list (pe_slice slA (pv 4) po_none (po_some pe_int))) (blkOk_by (own := [("_law_thing", 9)]) (N := ["_law_script", "_law_far", "_law_due", "_law_k", "_law_strange", "_law_pairs", "_law_odd", "_law_mixed", "_law_none", "_law_thing", "_law_taking"]) (sc := defScope s_law) (by decide +kernel)) (fun _ _ _ _ _ => pg_name (i := 9) sc_law.nd rfl (Or.inl rfl)) (fun _ _ _ _ _ => pts_nil) (fun _ _ _ _ _ => (pe_tupA (pa_cons pe_int (pa_cons (pv 9) pa_nil))))))) (C8.pss_cut (ps_if (pt_not (pt_val (pe_call (ok__law_all (P := P) (w := w) (base := base) T) (hr.mono (by decide : 8 ≤ _)) (by rfl) T.g__law_all T.F__law_all.kp T.b__law_all .nil pass0 (pa_cons (pe_glob (v := .ref T.a__law_with_taking) (by rfl) T.g__law_with_taking rfl) (pa_cons (pe_lstA (pa_cons pe_int (pa_cons pe_int pa_nil))) (pa_cons (pe_op oCat (pv 6) (pv 7)) (pa_cons (pe_ix ix_list (pv 2) pe_int (fun _ _ => rfl)) pa_nil))))))) (pss_one (ps_ret pe_bl)) pss_nil) (C8.pss_cut (ps_set (i := 8) sc_law.nd rfl (Or.inl rfl) (pe_lstA (pa_cons (pe_tupA (pa_cons pe_int (pa_cons pe_int pa_nil))) (pa_cons (pe_tupA (pa_cons (pe_un un_neg pe_int) (pa_cons pe_int pa_nil))) (pa_cons (pe_tupA (pa_cons pe_int (pa_cons (pe_op op_sub (pe_un un_neg pe_int) (pv 1)) pa_nil))) (pa_cons (pe_tupA (pa_cons (pe_op op_add pe_int (pv 1)) (pa_cons pe_int pa_nil))) (pa_cons (pe_tupA (pa_cons pe_int (pa_cons (pe_op op_add pe_int (pv 1)) pa_nil))) (pa_cons (pe_tupA (pa_cons pe_int (pa_cons pe_int pa_nil))) (pa_cons (pe_tupA (pa_cons pe_int (pa_cons pe_int pa_nil))) (pa_cons (pe_tupA (pa_cons pe_int (pa_cons pe_int pa_nil))) (pa_cons (pe_tupA (pa_cons pe_int (pa_cons pe_int pa_nil))) (pa_cons (pe_tupA (pa_cons (pe_un un_neg pe_int) (pa_cons (pe_un un_neg pe_int) pa_nil))) pa_nil)))))))))))) (C8.pss_cut (ps_if (pt_not (pt_val (pe_call (ok__law_all (P := P) (w := w) (base := base) T) (hr.mono (by decide : 8 ≤ _)) (by rfl) T.g__law_all T.F__law_all.kp T.b__law_all .nil pass0 (pa_cons (pe_glob (v := .ref T.a__law_with_taking) (by rfl) T.g__law_with_taking rfl) (pa_cons (pe_lstA (pa_cons pe_int pa_nil)) (pa_cons (pv 8) (pa_cons (pe_ix ix_list (pv 2) pe_int (fun _ _ => rfl)) pa_nil))))))) (pss_one (ps_ret pe_bl)) pss_nil) (C8.pss_cut (ps_if (pt_cmpR (oNeFal hr.units) (pe_lc (own := [("_law_taking", 10)]) (g := gName 10) (tt := tYes) rfl sc_law.nd (pi_list (pv 8)) (blkOk_by (own := [("_law_taking", 10)]) (N := ["_law_script", "_law_far", "_law_due", "_law_k", "_law_strange", "_law_pairs", "_law_odd", "_law_mixed", "_law_none", "_law_thing", "_law_taking"]) (sc := defScope s_law) (by decide +kernel)) (fun _ _ _ _ _ => pg_name (i := 10) sc_law.nd rfl (Or.inl rfl)) (fun _ _ _ _ _ => pts_nil) (fun _ _ _ _ _ => (pe_call (ok_can (P := P) (w := w) (base := base) T) (hr.mono (by decide : 4 ≤ _)) (by rfl) T.g_can T.F_can.kp T.b_can .nil passL (pa_cons pe_int (pa_cons (pe_tupA (pa_cons pe_int (pa_cons pe_int pa_nil))) (pa_cons (pv 10) pa_nil)))))) (pe_op oRepF (pe_lstA (pa_cons pe_bl pa_nil)) (pe_callB call_len (by rfl) T.n_len (by decide +kernel) (pa_cons (pv 8) pa_nil))) (nomark _)) (pss_one (ps_ret pe_bl)) pss_nil) (C8.pss_cut (ps_if (PW.pt (pw_or (pt_not (pt_val (pe_call (ok__law_all (P := P) (w := w) (base := base) T) (hr.mono (by decide : 8 ≤ _)) (by rfl) T.g__law_all T.F__law_all.kp T.b__law_all .nil pass0 (pa_cons (pe_glob (v := .ref T.a__law_with_number) (by rfl) T.g__law_with_number rfl) (pa_cons (pe_lstA (pa_cons pe_int (pa_cons pe_int pa_nil))) (pa_cons (pv 4) (pa_cons (pe_ix ix_list (pv 2) pe_int (fun _ _ => rfl)) pa_nil))))))) (pw_or1 (pt_not (pt_val (pe_call (ok__law_all (P := P) (w := w) (base := base) T) (hr.mono (by decide : 8 ≤ _)) (by rfl) T.g__law_all T.F__law_all.kp T.b__law_all .nil pass0 (pa_cons (pe_glob (v := .ref T.a__law_with_number) (by rfl) T.g__law_with_number rfl) (pa_cons (pe_lstA (pa_cons pe_int pa_nil)) (pa_cons (pe_lstA (pa_cons pe_int pa_nil)) (pa_cons (pe_ix ix_list (pv 2) pe_int (fun _ _ => rfl)) pa_nil)))))))))) (pss_one (ps_ret pe_bl)) pss_nil) (C8.pss_cut (ps_if (PW.pt (pw_or (pt_cmpR (oNeP hr.units) (pe_call (ok_left (P := P) (w := w) (base := base) T) (hr.mono (by decide : 5 ≤ _)) (by rfl) T.g_left T.F_left.kp T.b_left .nil passL (pa_cons pe_int (pa_cons (pe_tupA (pa_cons pe_int (pa_cons pe_int pa_nil))) (pa_cons (pe_tupA (pa_cons pe_int (pa_cons pe_int pa_nil))) pa_nil)))) (pe_tupA (pa_cons pe_int (pa_cons pe_int pa_nil))) (nomark _)) (pw_or1 (pt_cmpR (oNeP hr.units) (pe_call (ok_left (P := P) (w := w) (base := base) T) (hr.mono (by decide : 5 ≤ _)) (by rfl) T.g_left T.F_left.kp T.b_left .nil passL (pa_cons pe_int (pa_cons (pe_tupA (pa_cons (pe_op op_add (pv 1) pe_int) (pa_cons pe_int pa_nil))) (pa_cons (pe_tupA (pa_cons (pe_op op_add (pv 1) pe_int) (pa_cons pe_int pa_nil))) pa_nil)))) (pe_tupA (pa_cons pe_int (pa_cons pe_int pa_nil))) (nomark _))))) (pss_one (ps_ret pe_bl)) pss_nil) (pss_one (ps_ret (pe_and (pe_cmpR op_isBl (pe_call (ok_can (P := P) (w := w) (base := base) T) (hr.mono (by decide : 4 ≤ _)) (by rfl) T.g_can T.F_can.kp T.b_can .nil passL (pa_cons pe_int (pa_cons (pe_tupA (pa_cons pe_int (pa_cons pe_int pa_nil))) (pa_cons (pe_tupA (pa_cons pe_int (pa_cons pe_int pa_nil))) pa_nil)))) pe_bl (nomark _)) (pe_and (pe_cmpR op_isBl (pe_call (ok_can (P := P) (w := w) (base := base) T) (hr.mono (by decide : 4 ≤ _)) (by rfl) T.g_can T.F_can.kp T.b_can .nil passL (pa_cons pe_int (pa_cons (pe_tupA (pa_cons pe_int (pa_cons pe_int pa_nil))) (pa_cons (pe_tupA (pa_cons pe_int (pa_cons pe_int pa_nil))) pa_nil)))) pe_bl (nomark _)) (pe_one (pe_cmpR op_isBl (pe_call (ok_can (P := P) (w := w) (base := base) T) (hr.mono (by decide : 4 ≤ _)) (by rfl) T.g_can T.F_can.kp T.b_can .nil passL (pa_cons pe_int (pa_cons (pe_tupA (pa_cons pe_int (pa_cons pe_int pa_nil))) (pa_cons (pe_tupA (pa_cons pe_int (pa_cons pe_int pa_nil))) pa_nil)))) pe_bl (nomark _)))))))))))))))))))))), ?_⟩
    walk_at "rd"
    refine ⟨(fun σ' H' => Opq (∃ far : Int, σ' = [some (.ref a), some (.int far), none, none, none, none, none, none, none, none, none] ∧ 0 ≤ far)), ?_, ?_⟩
    · walk_at "rd"
      intro c bc
      walk_at "rd"
      exact opq_mk ⟨_, rfl, Int.emod_nonneg _ (by decide)⟩
    intro σ1 H1 h
    obtain ⟨far, rfl, hf⟩ := opq_out h
    clear h
    walk_at "rd"
    intro du H2 ndu e2 hdu
    walk_at "rd"
    refine ⟨(fun σ' H' => Opq (∃ (y3 y9 y10 : Option V), σ' = [some (.ref a), some (.int far), some (.ref du), y3, none, none, none, none, none, y9, y10] ∧ Du H' du)), ?_, ?_⟩
    · walk_at "rd"
      refine for_range (lo := 0) (n := 4) (fun i σ' H' => Opq (∃ (y3 y9 y10 : Option V) (ps : List Addr), σ' = [some (.ref a), some (.int far), some (.ref du), y3, none, none, none, none, none, y9, y10] ∧ H' du = some (.lst (ps.map V.ref)) ∧ ps.length = i ∧ ∀ j p, ps[j]? = some p → H' p = some (.lst (due j)))) (opq_mk ⟨_, _, _, [], rfl, hdu, rfl, fun j p z => nomatch z⟩) ?_ ?_
      · intro i σ3 H3 hi h
        obtain ⟨y3, y9, y10, ps, rfl, hd3, hn, hps⟩ := opq_out h
        clear h
        walk_at "rd"
        refine ⟨.inl ⟨rfl, _, SqL.of hd3⟩, ?_⟩
        walk_at "rd"
        intro lp H4 nlp e4 hlp
        rw [due_at hi] at hlp
        walk_at "rd"
        refine ⟨du, _, _, rfl, rfl, e4 _ _ hd3, (by rw [List.length_map, hn]; exact Nat.lt_of_lt_of_le hi (by decide)), ?_⟩
        refine opq_mk ⟨_, _, _, ps ++ [lp], rfl, ?_, ?_, ?_⟩
        · rw [upd_same, List.map_append]
          rfl
        · rw [List.length_append, hn]
          rfl
        · intro j p hj
          have hold : H4 p = some (.lst (due j)) := by
            rcases Nat.lt_or_ge j ps.length with hl | hl
            · rw [List.getElem?_append_left hl] at hj
              exact e4 _ _ (hps j p hj)
            · rw [List.getElem?_append_right hl] at hj
              have hz : j - ps.length = 0 := by
                rcases Nat.eq_zero_or_pos (j - ps.length) with z | z
                · exact z
                · rw [List.getElem?_eq_none (by simp; omega)] at hj
                  cases hj
              rw [hz] at hj
              cases hj
              have ej : j = i := by omega
              rw [ej]
              exact hlp
          have ne : p ≠ du := fun z => by
            rw [z, e4 _ _ hd3] at hold
            cases ps with
            | nil => cases hold
            | cons q qs => cases hold
          rw [upd_ne ne]
          exact hold
      · intro σ3 H3 h
        obtain ⟨y3, y9, y10, ps, rfl, hd3, hn, hps⟩ := opq_out h
        match ps, hn with
        | [p0, p1, p2, p3], _ => exact opq_mk ⟨_, _, _, rfl, p0, p1, p2, p3, hd3, hps 0 _ rfl, hps 1 _ rfl, hps 2 _ rfl, hps 3 _ rfl⟩
    clear ndu e2 hdu
    intro σ3 H3 h
    obtain ⟨y3, y9, y10, rfl, hD⟩ := opq_out h
    clear h
    walk_at "rd"
    refine ⟨(fun σ' H' => Opq (∃ (st : Addr), σ' = [some (.ref a), some (.int far), some (.ref du), y3, some (.ref st), none, none, none, none, y9, y10] ∧ Du H' du ∧ Stg H' st)), ?_, ?_⟩
    · walk_at "rd"
      intro l1 H5 nl1 e5 hl1
      walk_at "rd"
      intro t1 H6 nt1 e6 ht1
      walk_at "rd"
      intro d1 H7 nd1 e7 hd1
      walk_at "rd"
      intro st H8 nst e8 hst
      walk_at "rd"
      refine opq_mk ⟨_, rfl, hD.mono (by walk_at "sm"), _, hst, rfl, fun v hv => ?_, fun v hv => ?_⟩
      · simp only [List.mem_cons, List.not_mem_nil, or_false] at hv
        rcases hv with rfl | rfl | rfl | rfl | rfl | rfl | rfl | rfl | rfl
        · exact ⟨.non, fun i z => nomatch z⟩
        · exact ⟨.str _, fun i z => nomatch z⟩
        · exact ⟨.bl _, fun i z => nomatch z⟩
        · exact ⟨.bl _, fun i z => nomatch z⟩
        · exact ⟨.lst (by walk_at "hp"), fun i z => nomatch z⟩
        · exact ⟨.tup (by walk_at "hp"), fun i z => nomatch z⟩
        · exact ⟨.dk (by walk_at "hp"), fun i z => nomatch z⟩
        · exact ⟨.int _, fun i z => by cases z; decide⟩
        · exact ⟨.int _, fun i z => by cases z; omega⟩
      · have hv := (show v ∈ [V.non, V.str _, V.bl true, V.bl false, V.ref l1, V.ref t1, V.ref d1] from hv)
        simp only [List.mem_cons, List.not_mem_nil, or_false] at hv
        rcases hv with rfl | rfl | rfl | rfl | rfl | rfl | rfl <;> rfl
    clear hD
    intro σ4 H4 h
    obtain ⟨st, rfl, hD, hT⟩ := opq_out h
    clear h
    walk_at "rd"
    refine ⟨(fun σ' H' => Opq (σ' = [some (.ref a), some (.int far), some (.ref du), y3, some (.ref st), none, none, none, none, y9, y10] ∧ Du H' du ∧ Stg H' st)), ?_, ?_⟩
    · obtain ⟨p0, p1, p2, p3, hdu, h0, h1, h2, h3⟩ := id hD
      obtain ⟨xs, hst, nxs, hx, hw⟩ := id hT
      walk_at "rd"
      intro la H5 nla e5 hla
      walk_at "rd"
      intro lz H6 nlz e6 hlz
      walk_at "rd"
      refine ⟨_, _, _, _, rfl, rfl, (show _ = _ by walk_at "hp"), hlz, (by rw [nxs]; decide), fun ls H7 np7 e7 hls => ?_⟩
      have hdu7 : H7 du = some (.lst [.ref p0, .ref p1, .ref p2, .ref p3]) := by walk_at "hp"
      walk_at "rd"
      refine ⟨_, _, _, _, rfl, rfl, SqL.of hdu7, rfl, ?_⟩
      walk_at "rd"
      refine ⟨_, _, _, _, [0, 1, 2, 3, 4], _, 0, rfl, (show _ = _ by walk_at "hp"), hls, (by walk_at "hp"), (by rw [List.length_append, nxs]; decide), fun d hd v hv => ?_, fun H8 e8 => ?_⟩
      · have hv7 : Sg H4 v ∨ v = .int 0 := by
          rcases List.mem_append.mp hv with hv | hv
          · exact .inl (hx v hv)
          · exact .inr (List.mem_singleton.mp hv)
        rcases hv7 with hv | rfl
        · exact .bound (hv.1.mono (by walk_at "sm")) (hv.no (by decide))
        · exact .bound (.int _) fun ⟨i, e, hi⟩ => by cases e; omega
      · walk_at "rd"
        exact opq_mk ⟨rfl, hD.mono (by walk_at "sm"), hT.mono (by walk_at "sm")⟩
    clear hD hT
    intro σ4 H4 h
    obtain ⟨rfl, hD, hT⟩ := opq_out h
    clear h
    walk_at "rd"
    refine ⟨(fun σ' H' => Opq (∃ pa : Addr, σ' = [some (.ref a), some (.int far), some (.ref du), y3, some (.ref st), some (.ref pa), none, none, none, y9, y10] ∧ Du H' du ∧ Stg H' st ∧ LstP Nh H' pa)), ?_, ?_⟩
    · obtain ⟨xs, hst, nxs, hx, hw⟩ := id hT
      walk_at "rd"
      refine ⟨⟨_, SqL.of hst⟩, fun D1 nD1 => lc_tups (fun x => [x, .int 0]) nD1 (SqL.of hst) (by rw [nxs]; decide) (fun _ => rfl) (fun v H5 Q' hv e5 kk => ?_) (fun H5 ys e5 hD1 nys hys => ?_)⟩
      · walk_at "rd"
        intro p H6 np e6 hp
        exact kk p H6 e6 hp
      have hst5 : H5 st = some (.lst xs) := by walk_at "hp"
      walk_at "rd"
      refine ⟨⟨_, SqL.of hst5⟩, fun D2 nD2 => lc_tups (fun x => [.int far, x]) nD2 (SqL.of hst5) (by rw [nxs]; decide) (fun _ => rfl) (fun v H6 Q' hv e6 kk => ?_) (fun H6 zs e6 hD2 nzs hzs => ?_)⟩
      · walk_at "rd"
        intro p H7 np e7 hp
        exact kk p H7 e7 hp
      walk_at "rd"
      refine ⟨_, _, _, _, rfl, rfl, (show _ = _ by walk_at "hp"), hD2, (by rw [nys, nzs, nxs]; decide), fun pa H7 np7 e7 hpa => ?_⟩
      walk_at "rd"
      refine opq_mk ⟨_, rfl, hD.mono (by walk_at "sm"), hT.mono (by walk_at "sm"), _, hpa, (by rw [List.length_append, nys, nzs, nxs]; decide), fun y hy => ?_⟩
      rcases List.mem_append.mp hy with hy | hy
      · obtain ⟨x, hxm, p, rfl, hp⟩ := hys y hy
        exact pair_left (show H7 p = some (.tup [x, .int 0]) by walk_at "hp") ((hx x hxm).mono _ _ _ (by walk_at "sm"))
      · obtain ⟨x, hxm, p, rfl, hp⟩ := hzs y hy
        exact pair_right (show H7 p = some (.tup [.int far, x]) by walk_at "hp") ((hx x hxm).mono _ _ _ (by walk_at "sm"))
    clear hD hT
    intro σ4 H4 h
    obtain ⟨pa, rfl, hD, hT, hP⟩ := opq_out h
    clear h
    walk_at "rd"
    refine ⟨(fun σ' H' => Opq (∃ od : Addr, σ' = [some (.ref a), some (.int far), some (.ref du), y3, some (.ref st), some (.ref pa), some (.ref od), none, none, y9, y10] ∧ Du H' du ∧ Stg H' st ∧ LstP Nh H' pa ∧ LstP Np H' od)), ?_, ?_⟩
    · walk_at "rd"
      intro p1 H5 np1 e5 hp1
      walk_at "rd"
      intro p2 H6 np2 e6 hp2
      walk_at "rd"
      intro p3 H7 np3 e7 hp3
      walk_at "rd"
      intro l1 H8 nl1 e8 hl1
      walk_at "rd"
      intro d1 H9 nd1 e9 hd1
      walk_at "rd"
      intro p4 H10 np4 e10 hp4
      walk_at "rd"
      intro od H11 nod e11 hod
      walk_at "rd"
      refine opq_mk ⟨_, rfl, hD.mono (by walk_at "sm"), hT.mono (by walk_at "sm"), hP.mono Nh.mono (by walk_at "sm"), _, hod, Nat.le_of_ble_eq_true rfl, fun y hy => ?_⟩
      simp only [List.mem_cons, List.not_mem_nil, or_false] at hy
      rcases hy with rfl | rfl | rfl | rfl | rfl | rfl | rfl | rfl | rfl
      · exact .non
      · exact .tupn (xs := []) (by walk_at "hp") (by decide)
      · exact .tupn (xs := [.int 1]) (by walk_at "hp") (by decide)
      · exact .tupn (xs := [.int 1, .int 2, .int 3]) (by walk_at "hp") (by decide)
      · exact .lst (xs := [.int 1, .int 2]) (by walk_at "hp")
      · exact .str _
      · exact .dk (kvs := []) (by walk_at "hp")
      · exact .int _
      · exact .tupn (xs := [.int far, .int far, .int 1]) (by walk_at "hp") (fun z => nomatch z)
    clear hD hT hP
    intro σ4 H4 h
    obtain ⟨od, rfl, hD, hT, hP, hO⟩ := opq_out h
    clear h
    walk_at "rd"
    refine ⟨(fun σ' H' => Opq (σ' = [some (.ref a), some (.int far), some (.ref du), y3, some (.ref st), some (.ref pa), some (.ref od), none, none, y9, y10] ∧ Du H' du ∧ Stg H' st ∧ LstP Np H' od)), ?_, ?_⟩
    · obtain ⟨p0, p1, p2, p3, hdu, h0, h1, h2, h3⟩ := id hD
      obtain ⟨ys, hpa, nys, hys⟩ := id hP
      obtain ⟨zs, hod, nzs, hzs⟩ := id hO
      walk_at "rd"
      intro la H5 nla e5 hla
      walk_at "rd"
      refine ⟨_, _, _, _, rfl, rfl, (show _ = _ by walk_at "hp"), (show _ = _ by walk_at "hp"), (by omega), fun ls H7 np7 e7 hls => ?_⟩
      have hdu7 : H7 du = some (.lst [.ref p0, .ref p1, .ref p2, .ref p3]) := by walk_at "hp"
      walk_at "rd"
      refine ⟨_, _, _, _, rfl, rfl, SqL.of hdu7, rfl, ?_⟩
      walk_at "rd"
      refine ⟨_, _, _, _, [0, 1, 2], _, 1, rfl, (show _ = _ by walk_at "hp"), hls, (by walk_at "hp"), (by rw [List.length_append]; omega), fun d hd v hv => ?_, fun H8 e8 => ?_⟩
      · have hv7 : Nh H4 v := by
          rcases List.mem_append.mp hv with hv | hv
          · exact (hzs v hv).nh
          · exact hys v hv
        obtain ⟨b, pk, hn⟩ := hv7.mono _ _ _ (show Same H4 H7 by walk_at "sm")
        exact .heaps pk hn
      · walk_at "rd"
        exact opq_mk ⟨rfl, hD.mono (by walk_at "sm"), hT.mono (by walk_at "sm"), hO.mono Np.mono (by walk_at "sm")⟩
    clear hD hT hP hO
    intro σ4 H4 h
    obtain ⟨rfl, hD, hT, hO⟩ := opq_out h
    clear h
    walk_at "rd"
    refine ⟨(fun σ' H' => Opq (∃ mi : Addr, σ' = [some (.ref a), some (.int far), some (.ref du), y3, some (.ref st), some (.ref pa), some (.ref od), some (.ref mi), none, y9, y10] ∧ Du H' du ∧ Stg H' st ∧ LstP Np H' od ∧ LstP Np H' mi)), ?_, ?_⟩
    · obtain ⟨xs, hst, nxs, hx, hw⟩ := id hT
      have ec := cut7 nxs
      have n7 : (xs.take 7).length = 7 := by rw [List.length_take, nxs]; decide
      walk_at "rd"
      refine ⟨_, _, rfl, hst, fun s1 H5 ns1 e5 hs1 => ?_⟩
      rw [ec] at hs1
      walk_at "rd"
      refine ⟨⟨_, SqL.of hs1⟩, fun D1 nD1 => lc_tups (fun x => [x, .int 1]) nD1 (SqL.of hs1) (by rw [n7]; decide) (fun _ => rfl) (fun v H6 Q' hv e6 kk => ?_) (fun H6 ys e6 hD1 nys hys => ?_)⟩
      · walk_at "rd"
        intro p H7 np e7 hp
        exact kk p H7 e7 hp
      have hst6 : H6 st = some (.lst xs) := by walk_at "hp"
      walk_at "rd"
      refine ⟨_, _, rfl, hst6, fun s2 H7 ns2 e7 hs2 => ?_⟩
      rw [ec] at hs2
      walk_at "rd"
      refine ⟨⟨_, SqL.of hs2⟩, fun D2 nD2 => lc_tups (fun x => [.int 0, x]) nD2 (SqL.of hs2) (by rw [n7]; decide) (fun _ => rfl) (fun v H8 Q' hv e8 kk => ?_) (fun H8 zs e8 hD2 nzs hzs => ?_)⟩
      · walk_at "rd"
        intro p H9 np e9 hp
        exact kk p H9 e9 hp
      walk_at "rd"
      refine ⟨_, _, _, _, rfl, rfl, (show _ = _ by walk_at "hp"), hD2, (by rw [nys, nzs, n7]; decide), fun mi H9 np9 e9 hmi => ?_⟩
      walk_at "rd"
      refine opq_mk ⟨_, rfl, hD.mono (by walk_at "sm"), hT.mono (by walk_at "sm"), hO.mono Np.mono (by walk_at "sm"), _, hmi, (by rw [List.length_append, nys, nzs, n7]; decide), fun y hy => ?_⟩
      rcases List.mem_append.mp hy with hy | hy
      · obtain ⟨x, hxm, p, rfl, hp⟩ := hys y hy
        exact np_left (show H9 p = some (.tup [x, .int 1]) by walk_at "hp") ((hx x (List.mem_of_mem_take hxm)).1.mono (by walk_at "sm")) (hw x hxm)
      · obtain ⟨x, hxm, p, rfl, hp⟩ := hzs y hy
        exact np_right (show H9 p = some (.tup [.int 0, x]) by walk_at "hp") ((hx x (List.mem_of_mem_take hxm)).1.mono (by walk_at "sm")) (hw x hxm)
    clear hD hT hO
    intro σ4 H4 h
    obtain ⟨mi, rfl, hD, hT, hO, hM⟩ := opq_out h
    clear h
    walk_at "rd"
    refine ⟨(fun σ' H' => Opq (σ' = [some (.ref a), some (.int far), some (.ref du), y3, some (.ref st), some (.ref pa), some (.ref od), some (.ref mi), none, y9, y10] ∧ Du H' du ∧ Stg H' st)), ?_, ?_⟩
    · obtain ⟨p0, p1, p2, p3, hdu, h0, h1, h2, h3⟩ := id hD
      obtain ⟨ys, hmi, nys, hys⟩ := id hM
      obtain ⟨zs, hod, nzs, hzs⟩ := id hO
      walk_at "rd"
      intro la H5 nla e5 hla
      walk_at "rd"
      refine ⟨_, _, _, _, rfl, rfl, (show _ = _ by walk_at "hp"), (show _ = _ by walk_at "hp"), (by omega), fun ls H7 np7 e7 hls => ?_⟩
      have hdu7 : H7 du = some (.lst [.ref p0, .ref p1, .ref p2, .ref p3]) := by walk_at "hp"
      walk_at "rd"
      refine ⟨_, _, _, _, rfl, rfl, SqL.of hdu7, rfl, ?_⟩
      walk_at "rd"
      refine ⟨_, _, _, _, [0, 1], _, 2, rfl, (show _ = _ by walk_at "hp"), hls, (by walk_at "hp"), (by rw [List.length_append]; omega), fun d hd v hv => ?_, fun H8 e8 => ?_⟩
      · have hv7 : Np H4 v := by
          rcases List.mem_append.mp hv with hv | hv
          · exact hzs v hv
          · exact hys v hv
        exact .taking (hv7.mono _ _ _ (show Same H4 H7 by walk_at "sm")) (.inl rfl)
      · walk_at "rd"
        exact opq_mk ⟨rfl, hD.mono (by walk_at "sm"), hT.mono (by walk_at "sm")⟩
    clear hD hT hM hO
    intro σ4 H4 h
    obtain ⟨rfl, hD, hT⟩ := opq_out h
    clear h
    walk_at "rd"
    refine ⟨(fun σ' H' => Opq (∃ no : Addr, σ' = [some (.ref a), some (.int far), some (.ref du), y3, some (.ref st), some (.ref pa), some (.ref od), some (.ref mi), some (.ref no), y9, y10] ∧ Du H' du ∧ Stg H' st ∧ ∃ ys, H' no = some (.lst ys) ∧ ys.length = 10 ∧ ∀ v ∈ ys, Tk H' v)), ?_, ?_⟩
    · walk_at "rd"
      intro r0 H5 nr0 e5 hr0
      walk_at "rd"
      intro r1 H6 nr1 e6 hr1
      walk_at "rd"
      intro r2 H7 nr2 e7 hr2
      walk_at "rd"
      intro r3 H8 nr3 e8 hr3
      walk_at "rd"
      intro r4 H9 nr4 e9 hr4
      walk_at "rd"
      intro r5 H10 nr5 e10 hr5
      walk_at "rd"
      intro r6 H11 nr6 e11 hr6
      walk_at "rd"
      intro r7 H12 nr7 e12 hr7
      walk_at "rd"
      intro r8 H13 nr8 e13 hr8
      walk_at "rd"
      intro r9 H14 nr9 e14 hr9
      walk_at "rd"
      intro no H15 nno e15 hno
      walk_at "rd"
      refine opq_mk ⟨_, rfl, hD.mono (by walk_at "sm"), hT.mono (by walk_at "sm"), _, hno, rfl, fun v hv => ?_⟩
      simp only [List.mem_cons, List.not_mem_nil, or_false] at hv
      rcases hv with rfl | rfl | rfl | rfl | rfl | rfl | rfl | rfl | rfl | rfl
      · exact ⟨r0, 0, 0, rfl, (by walk_at "hp"), by unfold Legal; omega⟩
      · exact ⟨r1, -1, 0, rfl, (by walk_at "hp"), by unfold Legal; omega⟩
      · exact ⟨r2, 0, -1 - far, rfl, (by walk_at "hp"), by unfold Legal; omega⟩
      · exact ⟨r3, 6 + far, 0, rfl, (by walk_at "hp"), by unfold Legal; omega⟩
      · exact ⟨r4, 0, 8 + far, rfl, (by walk_at "hp"), by unfold Legal; omega⟩
      · exact ⟨r5, 1, 3, rfl, (by walk_at "hp"), by unfold Legal; omega⟩
      · exact ⟨r6, 5, 3, rfl, (by walk_at "hp"), by unfold Legal; omega⟩
      · exact ⟨r7, 3, 5, rfl, (by walk_at "hp"), by unfold Legal; omega⟩
      · exact ⟨r8, 6, 6, rfl, (by walk_at "hp"), by unfold Legal; omega⟩
      · exact ⟨r9, -1, -1, rfl, (by walk_at "hp"), by unfold Legal; omega⟩
    clear hD hT
    intro σ4 H4 h
    obtain ⟨no, rfl, hD, hT, ys, hno, nys, hys⟩ := opq_out h
    clear h
    walk_at "rd"
    refine ⟨(fun σ' H' => Opq (σ' = [some (.ref a), some (.int far), some (.ref du), y3, some (.ref st), some (.ref pa), some (.ref od), some (.ref mi), some (.ref no), y9, y10] ∧ Du H' du ∧ Stg H' st ∧ H' no = some (.lst ys) ∧ ∀ v ∈ ys, Tk H' v)), ?_, ?_⟩
    · obtain ⟨p0, p1, p2, p3, hdu, h0, h1, h2, h3⟩ := id hD
      walk_at "rd"
      intro la H5 nla e5 hla
      have hdu7 : H5 du = some (.lst [.ref p0, .ref p1, .ref p2, .ref p3]) := by walk_at "hp"
      walk_at "rd"
      refine ⟨_, _, _, _, rfl, rfl, SqL.of hdu7, rfl, ?_⟩
      walk_at "rd"
      refine ⟨_, _, _, _, [1], _, 2, rfl, (show _ = _ by walk_at "hp"), (show _ = _ by walk_at "hp"), (by walk_at "hp"), (by rw [nys]; decide), fun d hd v hv => ?_, fun H8 e8 => ?_⟩
      · obtain ⟨r, i, j, e, hr', hn⟩ := (hys v hv).mono _ _ _ (show Same H4 H5 by walk_at "sm")
        have ed := List.mem_singleton.mp hd
        subst e ed
        exact .taking (.tup2 hr' (.int _) (.int _)) (.inr ⟨by decide, r, i, j, rfl, hr', hn⟩)
      · walk_at "rd"
        exact opq_mk ⟨rfl, hD.mono (by walk_at "sm"), hT.mono (by walk_at "sm"), (by walk_at "hp"), fun v hv => (hys v hv).mono _ _ _ (by walk_at "sm")⟩
    clear hD hT hno hys
    intro σ4 H4 h
    obtain ⟨rfl, hD, hT, hno, hys⟩ := opq_out h
    clear h
    walk_at "rd"
    refine ⟨(fun σ' H' => Opq (σ' = [some (.ref a), some (.int far), some (.ref du), y3, some (.ref st), some (.ref pa), some (.ref od), some (.ref mi), some (.ref no), y9, y10] ∧ Du H' du ∧ Stg H' st)), ?_, ?_⟩
    · walk_at "rd"
      refine ⟨⟨_, SqL.of hno⟩, fun D1 nD1 => lc_const (v := .bl false) nD1 (SqL.of hno) (by rw [nys]; decide) (fun _ => rfl) (fun v H5 Q' hv e5 kk => ?_) (fun H5 e5 hD1 => ?_)⟩
      · obtain ⟨r, i', j', rfl, hr', hn⟩ := (hys v hv).mono _ _ _ e5
        walk_at "rd"
        intro p5 H6 np6 e6 hp5
        have hr6 : Pr H6 r i' j' := e6 _ _ hr'
        walk_at "rd"
        refine ⟨_, _, _, _, _, rfl, .int _, .tup2 hp5 (.int _) (.int _), .tup2 hr6 (.int _) (.int _), fun h => absurd ⟨_, rfl, by decide⟩ h, fun _ h => absurd ⟨_, _, _, rfl, hp5, by decide, by decide⟩ h, fun _ _ z => Bool.noConfusion z, fun t p x y r i j z1 z2 z3 hp hr' _ _ _ => ?_⟩
        cases z1
        cases z2
        cases z3
        obtain ⟨rfl, rfl⟩ := pr_inj hp hp5
        obtain ⟨rfl, rfl⟩ := pr_inj hr' hr6
        rw [decide_eq_false hn]
        exact kk _ e6
      rw [nys] at hD1
      have hno5 : H5 no = some (.lst ys) := by walk_at "hp"
      walk_at "rd"
      intro lf H6 nlf e6 hlf
      walk_at "rd"
      refine ⟨(by rw [nys]; rfl), hlf, fun lg H7 nlg e7 hlg => ?_⟩
      have hf1 : H5 D1 = some (.lst fal) := hD1
      walk_at "rd"
      refine ⟨(by walk_at "hp"), hlg, ?_⟩
      walk_at "rd"
      exact opq_mk ⟨rfl, hD.mono (by walk_at "sm"), hT.mono (by walk_at "sm")⟩
    clear hD hT hno hys
    intro σ4 H4 h
    obtain ⟨rfl, hD, hT⟩ := opq_out h
    clear h
    walk_at "rd"
    refine ⟨(fun σ' H' => Opq (σ' = [some (.ref a), some (.int far), some (.ref du), y3, some (.ref st), some (.ref pa), some (.ref od), some (.ref mi), some (.ref no), y9, y10])), ?_, ?_⟩
    · obtain ⟨p0, p1, p2, p3, hdu, h0, h1, h2, h3⟩ := id hD
      obtain ⟨xs, hst, nxs, hx, hw⟩ := id hT
      walk_at "rd"
      intro la H5 nla e5 hla
      have hdu7 : H5 du = some (.lst [.ref p0, .ref p1, .ref p2, .ref p3]) := by walk_at "hp"
      walk_at "rd"
      refine ⟨_, _, _, _, rfl, rfl, SqL.of hdu7, rfl, ?_⟩
      walk_at "rd"
      refine ⟨_, _, _, _, [0, 1], _, 3, rfl, (show _ = _ by walk_at "hp"), (show _ = _ by walk_at "hp"), (by walk_at "hp"), (by rw [nxs]; decide), fun d hd v hv => ?_, fun H8 e8 => ?_⟩
      · have hv7 := hx v hv
        exact .number (hv7.1.mono (by walk_at "sm")) (fun _ => hv7.no (by decide)) (fun _ => hv7.no (by decide))
      walk_at "rd"
      intro lb H9 nlb e9 hlb
      walk_at "rd"
      intro lc H10 nlc e10 hlc
      have hdu8 : H10 du = some (.lst [.ref p0, .ref p1, .ref p2, .ref p3]) := by walk_at "hp"
      walk_at "rd"
      refine ⟨_, _, _, _, rfl, rfl, SqL.of hdu8, rfl, ?_⟩
      walk_at "rd"
      refine ⟨_, _, _, _, [1], _, 3, rfl, (show _ = _ by walk_at "hp"), (show _ = _ by walk_at "hp"), (by walk_at "hp"), (by exact Nat.le_of_ble_eq_true rfl), fun d hd v hv => ?_, fun H11 e11 => ?_⟩
      · have ed := List.mem_singleton.mp hd
        have ev := List.mem_singleton.mp hv
        subst ed ev
        exact .number (.int _) (fun z => absurd z (by decide)) (fun _ ⟨i, e, hi⟩ => by cases e; omega)
      walk_at "rd"
      exact opq_mk rfl
    clear hD hT
    intro σ4 H4 h
    have e := opq_out h
    subst e
    clear h
    walk_at "rd"
    refine ⟨(fun σ' H' => Opq True), ?_, ?_⟩
    · walk_at "rd"
      intro p1 H5 np1 e5 hp1
      walk_at "rd"
      intro r1 H6 nr1 e6 hr1
      have hp6 : Pr H6 p1 5 7 := by walk_at "hp"
      walk_at "rd"
      refine ⟨_, _, _, _, _, rfl, .int _, .tup2 hp6 (.int _) (.int _), .tup2 hr1 (.int _) (.int _), fun h => absurd ⟨_, rfl, by decide⟩ h, fun _ h => absurd ⟨_, _, _, rfl, hp6, by decide, by decide⟩ h, fun _ _ z => Bool.noConfusion z, fun t p x y r i j z1 z2 z3 hp hr' _ _ _ => ?_⟩
      cases z1
      cases z2
      cases z3
      obtain ⟨rfl, rfl⟩ := pr_inj hp hp6
      obtain ⟨rfl, rfl⟩ := pr_inj hr' hr1
      refine ⟨fun _ u H7 nu e7 hu7 => ?_, fun z => absurd (by decide) z⟩
      walk_at "rd"
      intro q1 H8 nq1 e8 hq1
      have hu8 : Pr H8 u (5 - 5) (7 - 6) := by walk_at "hp"
      walk_at "rd"
      intro p2 H9 np2 e9 hp2
      walk_at "rd"
      intro r2 H10 nr2 e10 hr2
      have hp7 : Pr H10 p2 (far + 1) 2 := by walk_at "hp"
      have hr7 : Pr H10 r2 (far + 1) 0 := hr2
      walk_at "rd"
      refine ⟨_, _, _, _, _, rfl, .int _, .tup2 hp7 (.int _) (.int _), .tup2 hr7 (.int _) (.int _), fun h => absurd ⟨_, rfl, by decide⟩ h, fun _ h => absurd ⟨_, _, _, rfl, hp7, by omega, by decide⟩ h, fun _ _ z => Bool.noConfusion z, fun t p x y r i j z1 z2 z3 hp hr' _ _ _ => ?_⟩
      cases z1
      cases z2
      cases z3
      obtain ⟨rfl, rfl⟩ := pr_inj hp hp7
      obtain ⟨rfl, rfl⟩ := pr_inj hr' hr7
      refine ⟨fun _ u2 H11 nu2 e11 hu2 => ?_, fun z => absurd (show Legal 1 (far + 1) 2 (far + 1) 0 by unfold Legal; omega) z⟩
      walk_at "rd"
      intro q2 H12 nq2 e12 hq2
      have hu12 : Pr H12 u2 (far + 1 - (far + 1)) (2 - 0) := by walk_at "hp"
      walk_at "rd"
      rw [decide_eq_true (show far + 1 - (far + 1) = 0 ∧ (2 : Int) - 0 = 2 by omega)]
      walk_at "rd"
      exact opq_mk trivial
    intro σ5 H5 h
    clear h
    walk_at "rd"
    intro p1 H6 np1 e6 hp1
    walk_at "rd"
    intro r1 H7 nr1 e7 hr1
    have hp7 : Pr H7 p1 2 2 := by walk_at "hp"
    walk_at "rd"
    refine ⟨_, _, _, _, _, rfl, .int _, .tup2 hp7 (.int _) (.int _), .tup2 hr1 (.int _) (.int _), fun h => absurd ⟨_, rfl, by decide⟩ h, fun _ h => absurd ⟨_, _, _, rfl, hp7, by decide, by decide⟩ h, fun _ _ z => Bool.noConfusion z, fun t p x y r i j z1 z2 z3 hp hr' _ _ _ => ?_⟩
    cases z1
    cases z2
    cases z3
    obtain ⟨rfl, rfl⟩ := pr_inj hp hp7
    obtain ⟨rfl, rfl⟩ := pr_inj hr' hr1
    rw [decide_eq_true (show Legal 1 2 2 2 2 by decide)]
    walk_at "rd"
    intro p2 H8 np2 e8 hp2
    walk_at "rd"
    intro r2 H9 nr2 e9 hr2
    have hp9 : Pr H9 p2 3 3 := by walk_at "hp"
    walk_at "rd"
    refine ⟨_, _, _, _, _, rfl, .int _, .tup2 hp9 (.int _) (.int _), .tup2 hr2 (.int _) (.int _), fun h => absurd ⟨_, rfl, by decide⟩ h, fun _ h => absurd ⟨_, _, _, rfl, hp9, by decide, by decide⟩ h, fun _ _ z => Bool.noConfusion z, fun t p x y r i j z1 z2 z3 hp hr' _ _ _ => ?_⟩
    cases z1
    cases z2
    cases z3
    obtain ⟨rfl, rfl⟩ := pr_inj hp hp9
    obtain ⟨rfl, rfl⟩ := pr_inj hr' hr2
    rw [decide_eq_false (show ¬ Legal 1 3 3 1 2 by decide)]
    walk_at "rd"
    intro p3 H10 np3 e10 hp3
    walk_at "rd"
    intro r3 H11 nr3 e11 hr3
    have hp11 : Pr H11 p3 3 3 := by walk_at "hp"
    walk_at "rd"
    refine ⟨_, _, _, _, _, rfl, .int _, .tup2 hp11 (.int _) (.int _), .tup2 hr3 (.int _) (.int _), fun h => absurd ⟨_, rfl, by decide⟩ h, fun _ h => absurd ⟨_, _, _, rfl, hp11, by decide, by decide⟩ h, fun _ _ z => Bool.noConfusion z, fun t p x y r i j z1 z2 z3 hp hr' _ _ _ => ?_⟩
    cases z1
    cases z2
    cases z3
    obtain ⟨rfl, rfl⟩ := pr_inj hp hp11
    obtain ⟨rfl, rfl⟩ := pr_inj hr' hr3
    rw [decide_eq_true (show Legal 2 3 3 1 2 by decide)]
    walk_at "rd"
    exact q _

end

theorem all_mk {l : PySem.W.OpenLaw} {w : World} {K : PySem.W.Frag} {h : Heap} {mg : Str → Option Value} {fa C_HeapError C_BadBound C_BadHeaps C_BadTaking C_BadNumber f_is_whole f_is_pair f_check_bound f_check_heaps f_may_be f_can f_left f_pair_by f_pair_with f_told f__law_cell_at f__law_kinds f__law_with_bound f__law_with_heaps f__law_with_taking f__law_with_number f__law_told f__law_all f_law : Addr} (X : K.In h) (G : h.Ns mainGlobals mg) (hfa : mg "law" = some (.ref fa))
    {od_is_whole an_is_whole od_is_pair an_is_pair od_check_bound an_check_bound od_check_heaps an_check_heaps od_may_be an_may_be od_can an_can od_left an_left od_pair_by an_pair_by od_pair_with an_pair_with od_told an_told od__law_cell_at an__law_cell_at od__law_kinds an__law_kinds od__law_with_bound an__law_with_bound od__law_with_heaps an__law_with_heaps od__law_with_taking an__law_with_taking od__law_with_number an__law_with_number od__law_told an__law_told od__law_all an__law_all od_law an_law : Option Addr}
    {sl_is_whole sl_is_pair sl_check_bound sl_check_heaps sl_may_be sl_can sl_left sl_pair_by sl_pair_with sl_told sl__law_cell_at sl__law_kinds sl__law_with_bound sl__law_with_heaps sl__law_with_taking sl__law_with_number sl__law_told sl__law_all sl_law : Array (Option Value)}
    {oc_is_whole kV_is_whole dc_is_whole pm_is_whole cd_is_whole ct_is_whole oc_is_pair kV_is_pair dc_is_pair pm_is_pair cd_is_pair ct_is_pair oc_check_bound kV_check_bound dc_check_bound pm_check_bound cd_check_bound ct_check_bound oc_check_heaps kV_check_heaps dc_check_heaps pm_check_heaps cd_check_heaps ct_check_heaps oc_may_be kV_may_be dc_may_be pm_may_be cd_may_be ct_may_be oc_can kV_can dc_can pm_can cd_can ct_can oc_left kV_left dc_left pm_left cd_left ct_left oc_pair_by kV_pair_by dc_pair_by pm_pair_by cd_pair_by ct_pair_by oc_pair_with kV_pair_with dc_pair_with pm_pair_with cd_pair_with ct_pair_with oc_told kV_told dc_told pm_told cd_told ct_told oc__law_cell_at kV__law_cell_at dc__law_cell_at pm__law_cell_at cd__law_cell_at ct__law_cell_at oc__law_kinds kV__law_kinds dc__law_kinds pm__law_kinds cd__law_kinds ct__law_kinds oc__law_with_bound kV__law_with_bound dc__law_with_bound pm__law_with_bound cd__law_with_bound ct__law_with_bound oc__law_with_heaps kV__law_with_heaps dc__law_with_heaps pm__law_with_heaps cd__law_with_heaps ct__law_with_heaps oc__law_with_taking kV__law_with_taking dc__law_with_taking pm__law_with_taking cd__law_with_taking ct__law_with_taking oc__law_with_number kV__law_with_number dc__law_with_number pm__law_with_number cd__law_with_number ct__law_with_number oc__law_told kV__law_told dc__law_told pm__law_told cd__law_told ct__law_told oc__law_all kV__law_all dc__law_all pm__law_all cd__law_all ct__law_all oc_law kV_law dc_law pm_law cd_law ct_law : Value}
    (aC_HeapError : PySem.W.nsIn K mainGlobals "HeapError" = some (some (.ref C_HeapError)))
    (aC_BadBound : PySem.W.nsIn K mainGlobals "BadBound" = some (some (.ref C_BadBound)))
    (aC_BadHeaps : PySem.W.nsIn K mainGlobals "BadHeaps" = some (some (.ref C_BadHeaps)))
    (aC_BadTaking : PySem.W.nsIn K mainGlobals "BadTaking" = some (some (.ref C_BadTaking)))
    (aC_BadNumber : PySem.W.nsIn K mainGlobals "BadNumber" = some (some (.ref C_BadNumber)))
    (x_HeapError : PySem.W.excIn K C_HeapError [.type "ValueError", .type "Exception", .type "BaseException", .type "object"] "ValueError.__new__" = true)
    (k_HeapError : PySem.W.keepIn K (.ref C_HeapError) = true)
    (b_HeapError : PySem.W.subIn K (.ref C_HeapError) (.type "BaseException") = some true)
    (t_HeapError : PySem.W.typeIn K (.ref C_HeapError) = some (.type "type"))
    (x_BadBound : PySem.W.excIn K C_BadBound [.type "ValueError", .type "Exception", .type "BaseException", .type "object"] "ValueError.__new__" = true)
    (k_BadBound : PySem.W.keepIn K (.ref C_BadBound) = true)
    (b_BadBound : PySem.W.subIn K (.ref C_BadBound) (.type "BaseException") = some true)
    (t_BadBound : PySem.W.typeIn K (.ref C_BadBound) = some (.type "type"))
    (x_BadHeaps : PySem.W.excIn K C_BadHeaps [.type "ValueError", .type "Exception", .type "BaseException", .type "object"] "ValueError.__new__" = true)
    (k_BadHeaps : PySem.W.keepIn K (.ref C_BadHeaps) = true)
    (b_BadHeaps : PySem.W.subIn K (.ref C_BadHeaps) (.type "BaseException") = some true)
    (t_BadHeaps : PySem.W.typeIn K (.ref C_BadHeaps) = some (.type "type"))
    (x_BadTaking : PySem.W.excIn K C_BadTaking [.type "ValueError", .type "Exception", .type "BaseException", .type "object"] "ValueError.__new__" = true)
    (k_BadTaking : PySem.W.keepIn K (.ref C_BadTaking) = true)
    (b_BadTaking : PySem.W.subIn K (.ref C_BadTaking) (.type "BaseException") = some true)
    (t_BadTaking : PySem.W.typeIn K (.ref C_BadTaking) = some (.type "type"))
    (x_BadNumber : PySem.W.excIn K C_BadNumber [.type "ValueError", .type "Exception", .type "BaseException", .type "object"] "ValueError.__new__" = true)
    (k_BadNumber : PySem.W.keepIn K (.ref C_BadNumber) = true)
    (b_BadNumber : PySem.W.subIn K (.ref C_BadNumber) (.type "BaseException") = some true)
    (t_BadNumber : PySem.W.typeIn K (.ref C_BadNumber) = some (.type "type"))
    (i_HeapError : PySem.W.isClsIn K C_HeapError = true)
    (su_HeapError_HeapError : PySem.W.subIn K (.ref C_HeapError) (.ref C_HeapError) = some true)
    (hd_HeapError : PySem.W.hasDictIn K C_HeapError = true)
    (i_BadBound : PySem.W.isClsIn K C_BadBound = true)
    (su_BadBound_BadBound : PySem.W.subIn K (.ref C_BadBound) (.ref C_BadBound) = some true)
    (hd_BadBound : PySem.W.hasDictIn K C_BadBound = true)
    (su_BadBound_HeapError : PySem.W.subIn K (.ref C_BadBound) (.ref C_HeapError) = some true)
    (hg_BadBound : PySem.W.findIn K (.ref C_BadBound) "__getattribute__" = some (some (.builtin "BaseException.__getattribute__")))
    (hk_BadBound : PySem.W.findIn K (.ref C_BadBound) "__getattr__" = some none)
    (ha_BadBound : PySem.W.findIn K (.ref C_BadBound) "__class__" = some (some (.builtin "object.__class__")))
    (hm_BadBound : PySem.W.mroIn K C_BadBound (.type "object") = some true)
    (i_BadHeaps : PySem.W.isClsIn K C_BadHeaps = true)
    (su_BadHeaps_BadHeaps : PySem.W.subIn K (.ref C_BadHeaps) (.ref C_BadHeaps) = some true)
    (hd_BadHeaps : PySem.W.hasDictIn K C_BadHeaps = true)
    (su_BadHeaps_HeapError : PySem.W.subIn K (.ref C_BadHeaps) (.ref C_HeapError) = some true)
    (hg_BadHeaps : PySem.W.findIn K (.ref C_BadHeaps) "__getattribute__" = some (some (.builtin "BaseException.__getattribute__")))
    (hk_BadHeaps : PySem.W.findIn K (.ref C_BadHeaps) "__getattr__" = some none)
    (ha_BadHeaps : PySem.W.findIn K (.ref C_BadHeaps) "__class__" = some (some (.builtin "object.__class__")))
    (hm_BadHeaps : PySem.W.mroIn K C_BadHeaps (.type "object") = some true)
    (i_BadTaking : PySem.W.isClsIn K C_BadTaking = true)
    (su_BadTaking_BadTaking : PySem.W.subIn K (.ref C_BadTaking) (.ref C_BadTaking) = some true)
    (hd_BadTaking : PySem.W.hasDictIn K C_BadTaking = true)
    (su_BadTaking_HeapError : PySem.W.subIn K (.ref C_BadTaking) (.ref C_HeapError) = some true)
    (hg_BadTaking : PySem.W.findIn K (.ref C_BadTaking) "__getattribute__" = some (some (.builtin "BaseException.__getattribute__")))
    (hk_BadTaking : PySem.W.findIn K (.ref C_BadTaking) "__getattr__" = some none)
    (ha_BadTaking : PySem.W.findIn K (.ref C_BadTaking) "__class__" = some (some (.builtin "object.__class__")))
    (hm_BadTaking : PySem.W.mroIn K C_BadTaking (.type "object") = some true)
    (i_BadNumber : PySem.W.isClsIn K C_BadNumber = true)
    (su_BadNumber_BadNumber : PySem.W.subIn K (.ref C_BadNumber) (.ref C_BadNumber) = some true)
    (hd_BadNumber : PySem.W.hasDictIn K C_BadNumber = true)
    (su_BadNumber_HeapError : PySem.W.subIn K (.ref C_BadNumber) (.ref C_HeapError) = some true)
    (hg_BadNumber : PySem.W.findIn K (.ref C_BadNumber) "__getattribute__" = some (some (.builtin "BaseException.__getattribute__")))
    (hk_BadNumber : PySem.W.findIn K (.ref C_BadNumber) "__getattr__" = some none)
    (ha_BadNumber : PySem.W.findIn K (.ref C_BadNumber) "__class__" = some (some (.builtin "object.__class__")))
    (hm_BadNumber : PySem.W.mroIn K C_BadNumber (.type "object") = some true)
    (hn : PySem.W.specialIn K (.builtin "object.__class__") "__get__" = some (some (.builtin "getset_descriptor.__get__")))
    (htk : PySem.W.takesIn K (.builtin "object.__class__") = some true)
    (su_BadBound_BadHeaps : PySem.W.subIn K (.ref C_BadBound) (.ref C_BadHeaps) = some false)
    (su_BadBound_BadTaking : PySem.W.subIn K (.ref C_BadBound) (.ref C_BadTaking) = some false)
    (su_BadBound_BadNumber : PySem.W.subIn K (.ref C_BadBound) (.ref C_BadNumber) = some false)
    (su_BadHeaps_BadBound : PySem.W.subIn K (.ref C_BadHeaps) (.ref C_BadBound) = some false)
    (su_BadHeaps_BadTaking : PySem.W.subIn K (.ref C_BadHeaps) (.ref C_BadTaking) = some false)
    (su_BadHeaps_BadNumber : PySem.W.subIn K (.ref C_BadHeaps) (.ref C_BadNumber) = some false)
    (su_BadTaking_BadBound : PySem.W.subIn K (.ref C_BadTaking) (.ref C_BadBound) = some false)
    (su_BadTaking_BadHeaps : PySem.W.subIn K (.ref C_BadTaking) (.ref C_BadHeaps) = some false)
    (su_BadTaking_BadNumber : PySem.W.subIn K (.ref C_BadTaking) (.ref C_BadNumber) = some false)
    (su_BadNumber_BadBound : PySem.W.subIn K (.ref C_BadNumber) (.ref C_BadBound) = some false)
    (su_BadNumber_BadHeaps : PySem.W.subIn K (.ref C_BadNumber) (.ref C_BadHeaps) = some false)
    (su_BadNumber_BadTaking : PySem.W.subIn K (.ref C_BadNumber) (.ref C_BadTaking) = some false)
    (su_BadBound_ValueError : PySem.W.subIn K (.ref C_BadBound) (.type "ValueError") = some true)
    (su_BadHeaps_ValueError : PySem.W.subIn K (.ref C_BadHeaps) (.type "ValueError") = some true)
    (su_BadTaking_ValueError : PySem.W.subIn K (.ref C_BadTaking) (.type "ValueError") = some true)
    (su_BadNumber_ValueError : PySem.W.subIn K (.ref C_BadNumber) (.type "ValueError") = some true)
    (a_is_whole : PySem.W.nsIn K mainGlobals "is_whole" = some (some (.ref f_is_whole)))
    (l_is_whole : K.lookup f_is_whole = some ⟨oc_is_whole, od_is_whole, .func (PySem.W.fnOf "is_whole" "is_whole" (defArgs s_is_whole) (defBody s_is_whole) (defScope s_is_whole) .none kV_is_whole dc_is_whole pm_is_whole an_is_whole cd_is_whole ct_is_whole), sl_is_whole⟩)
    (c_is_whole : PySem.W.codeIn K cd_is_whole "is_whole" = true)
    (k_is_whole : PySem.W.keepIn K (.ref f_is_whole) = true)
    (a_is_pair : PySem.W.nsIn K mainGlobals "is_pair" = some (some (.ref f_is_pair)))
    (l_is_pair : K.lookup f_is_pair = some ⟨oc_is_pair, od_is_pair, .func (PySem.W.fnOf "is_pair" "is_pair" (defArgs s_is_pair) (defBody s_is_pair) (defScope s_is_pair) .none kV_is_pair dc_is_pair pm_is_pair an_is_pair cd_is_pair ct_is_pair), sl_is_pair⟩)
    (c_is_pair : PySem.W.codeIn K cd_is_pair "is_pair" = true)
    (k_is_pair : PySem.W.keepIn K (.ref f_is_pair) = true)
    (a_check_bound : PySem.W.nsIn K mainGlobals "check_bound" = some (some (.ref f_check_bound)))
    (l_check_bound : K.lookup f_check_bound = some ⟨oc_check_bound, od_check_bound, .func (PySem.W.fnOf "check_bound" "check_bound" (defArgs s_check_bound) (defBody s_check_bound) (defScope s_check_bound) .none kV_check_bound dc_check_bound pm_check_bound an_check_bound cd_check_bound ct_check_bound), sl_check_bound⟩)
    (c_check_bound : PySem.W.codeIn K cd_check_bound "check_bound" = true)
    (k_check_bound : PySem.W.keepIn K (.ref f_check_bound) = true)
    (a_check_heaps : PySem.W.nsIn K mainGlobals "check_heaps" = some (some (.ref f_check_heaps)))
    (l_check_heaps : K.lookup f_check_heaps = some ⟨oc_check_heaps, od_check_heaps, .func (PySem.W.fnOf "check_heaps" "check_heaps" (defArgs s_check_heaps) (defBody s_check_heaps) (defScope s_check_heaps) .none kV_check_heaps dc_check_heaps pm_check_heaps an_check_heaps cd_check_heaps ct_check_heaps), sl_check_heaps⟩)
    (c_check_heaps : PySem.W.codeIn K cd_check_heaps "check_heaps" = true)
    (k_check_heaps : PySem.W.keepIn K (.ref f_check_heaps) = true)
    (a_may_be : PySem.W.nsIn K mainGlobals "may_be" = some (some (.ref f_may_be)))
    (l_may_be : K.lookup f_may_be = some ⟨oc_may_be, od_may_be, .func (PySem.W.fnOf "may_be" "may_be" (defArgs s_may_be) (defBody s_may_be) (defScope s_may_be) .none kV_may_be dc_may_be pm_may_be an_may_be cd_may_be ct_may_be), sl_may_be⟩)
    (c_may_be : PySem.W.codeIn K cd_may_be "may_be" = true)
    (k_may_be : PySem.W.keepIn K (.ref f_may_be) = true)
    (a_can : PySem.W.nsIn K mainGlobals "can" = some (some (.ref f_can)))
    (l_can : K.lookup f_can = some ⟨oc_can, od_can, .func (PySem.W.fnOf "can" "can" (defArgs s_can) (defBody s_can) (defScope s_can) .none kV_can dc_can pm_can an_can cd_can ct_can), sl_can⟩)
    (c_can : PySem.W.codeIn K cd_can "can" = true)
    (k_can : PySem.W.keepIn K (.ref f_can) = true)
    (a_left : PySem.W.nsIn K mainGlobals "left" = some (some (.ref f_left)))
    (l_left : K.lookup f_left = some ⟨oc_left, od_left, .func (PySem.W.fnOf "left" "left" (defArgs s_left) (defBody s_left) (defScope s_left) .none kV_left dc_left pm_left an_left cd_left ct_left), sl_left⟩)
    (c_left : PySem.W.codeIn K cd_left "left" = true)
    (k_left : PySem.W.keepIn K (.ref f_left) = true)
    (a_pair_by : PySem.W.nsIn K mainGlobals "pair_by" = some (some (.ref f_pair_by)))
    (l_pair_by : K.lookup f_pair_by = some ⟨oc_pair_by, od_pair_by, .func (PySem.W.fnOf "pair_by" "pair_by" (defArgs s_pair_by) (defBody s_pair_by) (defScope s_pair_by) .none kV_pair_by dc_pair_by pm_pair_by an_pair_by cd_pair_by ct_pair_by), sl_pair_by⟩)
    (c_pair_by : PySem.W.codeIn K cd_pair_by "pair_by" = true)
    (k_pair_by : PySem.W.keepIn K (.ref f_pair_by) = true)
    (a_pair_with : PySem.W.nsIn K mainGlobals "pair_with" = some (some (.ref f_pair_with)))
    (l_pair_with : K.lookup f_pair_with = some ⟨oc_pair_with, od_pair_with, .func (PySem.W.fnOf "pair_with" "pair_with" (defArgs s_pair_with) (defBody s_pair_with) (defScope s_pair_with) .none kV_pair_with dc_pair_with pm_pair_with an_pair_with cd_pair_with ct_pair_with), sl_pair_with⟩)
    (c_pair_with : PySem.W.codeIn K cd_pair_with "pair_with" = true)
    (k_pair_with : PySem.W.keepIn K (.ref f_pair_with) = true)
    (a_told : PySem.W.nsIn K mainGlobals "told" = some (some (.ref f_told)))
    (l_told : K.lookup f_told = some ⟨oc_told, od_told, .func (PySem.W.fnOf "told" "told" (defArgs s_told) (defBody s_told) (defScope s_told) .none kV_told dc_told pm_told an_told cd_told ct_told), sl_told⟩)
    (c_told : PySem.W.codeIn K cd_told "told" = true)
    (k_told : PySem.W.keepIn K (.ref f_told) = true)
    (a__law_cell_at : PySem.W.nsIn K mainGlobals "_law_cell_at" = some (some (.ref f__law_cell_at)))
    (l__law_cell_at : K.lookup f__law_cell_at = some ⟨oc__law_cell_at, od__law_cell_at, .func (PySem.W.fnOf "_law_cell_at" "_law_cell_at" (defArgs s__law_cell_at) (defBody s__law_cell_at) (defScope s__law_cell_at) .none kV__law_cell_at dc__law_cell_at pm__law_cell_at an__law_cell_at cd__law_cell_at ct__law_cell_at), sl__law_cell_at⟩)
    (c__law_cell_at : PySem.W.codeIn K cd__law_cell_at "_law_cell_at" = true)
    (k__law_cell_at : PySem.W.keepIn K (.ref f__law_cell_at) = true)
    (a__law_kinds : PySem.W.nsIn K mainGlobals "_law_kinds" = some (some (.ref f__law_kinds)))
    (l__law_kinds : K.lookup f__law_kinds = some ⟨oc__law_kinds, od__law_kinds, .func (PySem.W.fnOf "_law_kinds" "_law_kinds" (defArgs s__law_kinds) (defBody s__law_kinds) (defScope s__law_kinds) .none kV__law_kinds dc__law_kinds pm__law_kinds an__law_kinds cd__law_kinds ct__law_kinds), sl__law_kinds⟩)
    (c__law_kinds : PySem.W.codeIn K cd__law_kinds "_law_kinds" = true)
    (k__law_kinds : PySem.W.keepIn K (.ref f__law_kinds) = true)
    (a__law_with_bound : PySem.W.nsIn K mainGlobals "_law_with_bound" = some (some (.ref f__law_with_bound)))
    (l__law_with_bound : K.lookup f__law_with_bound = some ⟨oc__law_with_bound, od__law_with_bound, .func (PySem.W.fnOf "_law_with_bound" "_law_with_bound" (defArgs s__law_with_bound) (defBody s__law_with_bound) (defScope s__law_with_bound) .none kV__law_with_bound dc__law_with_bound pm__law_with_bound an__law_with_bound cd__law_with_bound ct__law_with_bound), sl__law_with_bound⟩)
    (c__law_with_bound : PySem.W.codeIn K cd__law_with_bound "_law_with_bound" = true)
    (k__law_with_bound : PySem.W.keepIn K (.ref f__law_with_bound) = true)
    (a__law_with_heaps : PySem.W.nsIn K mainGlobals "_law_with_heaps" = some (some (.ref f__law_with_heaps)))
    (l__law_with_heaps : K.lookup f__law_with_heaps = some ⟨oc__law_with_heaps, od__law_with_heaps, .func (PySem.W.fnOf "_law_with_heaps" "_law_with_heaps" (defArgs s__law_with_heaps) (defBody s__law_with_heaps) (defScope s__law_with_heaps) .none kV__law_with_heaps dc__law_with_heaps pm__law_with_heaps an__law_with_heaps cd__law_with_heaps ct__law_with_heaps), sl__law_with_heaps⟩)
    (c__law_with_heaps : PySem.W.codeIn K cd__law_with_heaps "_law_with_heaps" = true)
    (k__law_with_heaps : PySem.W.keepIn K (.ref f__law_with_heaps) = true)
    (a__law_with_taking : PySem.W.nsIn K mainGlobals "_law_with_taking" = some (some (.ref f__law_with_taking)))
    (l__law_with_taking : K.lookup f__law_with_taking = some ⟨oc__law_with_taking, od__law_with_taking, .func (PySem.W.fnOf "_law_with_taking" "_law_with_taking" (defArgs s__law_with_taking) (defBody s__law_with_taking) (defScope s__law_with_taking) .none kV__law_with_taking dc__law_with_taking pm__law_with_taking an__law_with_taking cd__law_with_taking ct__law_with_taking), sl__law_with_taking⟩)
    (c__law_with_taking : PySem.W.codeIn K cd__law_with_taking "_law_with_taking" = true)
    (k__law_with_taking : PySem.W.keepIn K (.ref f__law_with_taking) = true)
    (a__law_with_number : PySem.W.nsIn K mainGlobals "_law_with_number" = some (some (.ref f__law_with_number)))
    (l__law_with_number : K.lookup f__law_with_number = some ⟨oc__law_with_number, od__law_with_number, .func (PySem.W.fnOf "_law_with_number" "_law_with_number" (defArgs s__law_with_number) (defBody s__law_with_number) (defScope s__law_with_number) .none kV__law_with_number dc__law_with_number pm__law_with_number an__law_with_number cd__law_with_number ct__law_with_number), sl__law_with_number⟩)
    (c__law_with_number : PySem.W.codeIn K cd__law_with_number "_law_with_number" = true)
    (k__law_with_number : PySem.W.keepIn K (.ref f__law_with_number) = true)
    (a__law_told : PySem.W.nsIn K mainGlobals "_law_told" = some (some (.ref f__law_told)))
    (l__law_told : K.lookup f__law_told = some ⟨oc__law_told, od__law_told, .func (PySem.W.fnOf "_law_told" "_law_told" (defArgs s__law_told) (defBody s__law_told) (defScope s__law_told) .none kV__law_told dc__law_told pm__law_told an__law_told cd__law_told ct__law_told), sl__law_told⟩)
    (c__law_told : PySem.W.codeIn K cd__law_told "_law_told" = true)
    (k__law_told : PySem.W.keepIn K (.ref f__law_told) = true)
    (a__law_all : PySem.W.nsIn K mainGlobals "_law_all" = some (some (.ref f__law_all)))
    (l__law_all : K.lookup f__law_all = some ⟨oc__law_all, od__law_all, .func (PySem.W.fnOf "_law_all" "_law_all" (defArgs s__law_all) (defBody s__law_all) (defScope s__law_all) .none kV__law_all dc__law_all pm__law_all an__law_all cd__law_all ct__law_all), sl__law_all⟩)
    (c__law_all : PySem.W.codeIn K cd__law_all "_law_all" = true)
    (k__law_all : PySem.W.keepIn K (.ref f__law_all) = true)
    (a_law : PySem.W.nsIn K mainGlobals "law" = some (some (.ref f_law)))
    (l_law : K.lookup f_law = some ⟨oc_law, od_law, .func (PySem.W.fnOf "law" "law" (defArgs s_law) (defBody s_law) (defScope s_law) .none kV_law dc_law pm_law an_law cd_law ct_law), sl_law⟩)
    (c_law : PySem.W.codeIn K cd_law "law" = true)
    (k_law : PySem.W.keepIn K (.ref f_law) = true)
    (z_isinstance : PySem.W.nsIn K mainGlobals "isinstance" = some none)
    (z_len : PySem.W.nsIn K mainGlobals "len" = some none)
    (z_max : PySem.W.nsIn K mainGlobals "max" = some none)
    (z_min : PySem.W.nsIn K mainGlobals "min" = some none)
    (z_abs : PySem.W.nsIn K mainGlobals "abs" = some none)
    (z_int : PySem.W.nsIn K mainGlobals "int" = some none)
    (z_bool : PySem.W.nsIn K mainGlobals "bool" = some none)
    (z_tuple : PySem.W.nsIn K mainGlobals "tuple" = some none)
    (z_range : PySem.W.nsIn K mainGlobals "range" = some none)
    (z_all : PySem.W.nsIn K mainGlobals "all" = some none)
    (z_ValueError : PySem.W.nsIn K mainGlobals "ValueError" = some none)
    : ∃ fd : FuncData, (∀ (s : Shared) (v : Value), BindsTo s fd ⟨[v], []⟩ [("_law_script", v)]) ∧ ∀ base : Heap, K.In base → base.Ns mainGlobals mg → FnOk l.prog w K mg base CX0 9 fa fd ["_law_script"] (sp_law K) := by
  have e := hfa.symm.trans (PySem.W.mg_of X G a_law)
  cases e
  have F_is_whole := fun_mk (st := s_is_whole) l_is_whole c_is_whole k_is_whole
  have b_is_whole := F_is_whole.binds (ps := ["thing"]) fun _ _ _ _ _ _ us hl => match us, hl with | [_], _ => rfl
  have F_is_pair := fun_mk (st := s_is_pair) l_is_pair c_is_pair k_is_pair
  have b_is_pair := F_is_pair.binds (ps := ["thing"]) fun _ _ _ _ _ _ us hl => match us, hl with | [_], _ => rfl
  have F_check_bound := fun_mk (st := s_check_bound) l_check_bound c_check_bound k_check_bound
  have b_check_bound := F_check_bound.binds (ps := ["bound"]) fun _ _ _ _ _ _ us hl => match us, hl with | [_], _ => rfl
  have F_check_heaps := fun_mk (st := s_check_heaps) l_check_heaps c_check_heaps k_check_heaps
  have b_check_heaps := F_check_heaps.binds (ps := ["heaps"]) fun _ _ _ _ _ _ us hl => match us, hl with | [_], _ => rfl
  have F_may_be := fun_mk (st := s_may_be) l_may_be c_may_be k_may_be
  have b_may_be := F_may_be.binds (ps := ["bound", "heaps", "taking"]) fun _ _ _ _ _ _ us hl => match us, hl with | [_, _, _], _ => rfl
  have F_can := fun_mk (st := s_can) l_can c_can k_can
  have b_can := F_can.binds (ps := ["bound", "heaps", "taking"]) fun _ _ _ _ _ _ us hl => match us, hl with | [_, _, _], _ => rfl
  have F_left := fun_mk (st := s_left) l_left c_left k_left
  have b_left := F_left.binds (ps := ["bound", "heaps", "taking"]) fun _ _ _ _ _ _ us hl => match us, hl with | [_, _, _], _ => rfl
  have F_pair_by := fun_mk (st := s_pair_by) l_pair_by c_pair_by k_pair_by
  have b_pair_by := F_pair_by.binds (ps := ["bound", "number"]) fun _ _ _ _ _ _ us hl => match us, hl with | [_, _], _ => rfl
  have F_pair_with := fun_mk (st := s_pair_with) l_pair_with c_pair_with k_pair_with
  have b_pair_with := F_pair_with.binds (ps := ["bound", "number"]) fun _ _ _ _ _ _ us hl => match us, hl with | [_, _], _ => rfl
  have F_told := fun_mk (st := s_told) l_told c_told k_told
  have b_told := F_told.binds (ps := ["bound", "heaps"]) fun _ _ _ _ _ _ us hl => match us, hl with | [_, _], _ => rfl
  have F__law_cell_at := fun_mk (st := s__law_cell_at) l__law_cell_at c__law_cell_at k__law_cell_at
  have b__law_cell_at := F__law_cell_at.binds (ps := ["_law_script", "_law_k"]) fun _ _ _ _ _ _ us hl => match us, hl with | [_, _], _ => rfl
  have F__law_kinds := fun_mk (st := s__law_kinds) l__law_kinds c__law_kinds k__law_kinds
  have b__law_kinds := F__law_kinds.binds (ps := ["_law_error"]) fun _ _ _ _ _ _ us hl => match us, hl with | [_], _ => rfl
  have F__law_with_bound := fun_mk (st := s__law_with_bound) l__law_with_bound c__law_with_bound k__law_with_bound
  have b__law_with_bound := F__law_with_bound.binds (ps := ["_law_door", "_law_bound"]) fun _ _ _ _ _ _ us hl => match us, hl with | [_, _], _ => rfl
  have F__law_with_heaps := fun_mk (st := s__law_with_heaps) l__law_with_heaps c__law_with_heaps k__law_with_heaps
  have b__law_with_heaps := F__law_with_heaps.binds (ps := ["_law_door", "_law_heaps"]) fun _ _ _ _ _ _ us hl => match us, hl with | [_, _], _ => rfl
  have F__law_with_taking := fun_mk (st := s__law_with_taking) l__law_with_taking c__law_with_taking k__law_with_taking
  have b__law_with_taking := F__law_with_taking.binds (ps := ["_law_door", "_law_taking"]) fun _ _ _ _ _ _ us hl => match us, hl with | [_, _], _ => rfl
  have F__law_with_number := fun_mk (st := s__law_with_number) l__law_with_number c__law_with_number k__law_with_number
  have b__law_with_number := F__law_with_number.binds (ps := ["_law_door", "_law_number"]) fun _ _ _ _ _ _ us hl => match us, hl with | [_, _], _ => rfl
  have F__law_told := fun_mk (st := s__law_told) l__law_told c__law_told k__law_told
  have b__law_told := F__law_told.binds (ps := ["_law_ask", "_law_door", "_law_thing"]) fun _ _ _ _ _ _ us hl => match us, hl with | [_, _, _], _ => rfl
  have F__law_all := fun_mk (st := s__law_all) l__law_all c__law_all k__law_all
  have b__law_all := F__law_all.binds (ps := ["_law_ask", "_law_doors", "_law_things", "_law_due"]) fun _ _ _ _ _ _ us hl => match us, hl with | [_, _, _, _], _ => rfl
  have F_law := fun_mk (st := s_law) l_law c_law k_law
  have b_law := F_law.binds (ps := ["_law_script"]) fun _ _ _ _ _ _ us hl => match us, hl with | [_], _ => rfl
  exact ⟨PySem.W.fnOf "law" "law" (defArgs s_law) (defBody s_law) (defScope s_law) .none kV_law dc_law pm_law an_law cd_law ct_law, fun s v => .of_eq rfl, fun base _ _ => ok_law { a_HeapError := C_HeapError, g_HeapError := PySem.W.mg_of X G aC_HeapError, a_BadBound := C_BadBound, g_BadBound := PySem.W.mg_of X G aC_BadBound, a_BadHeaps := C_BadHeaps, g_BadHeaps := PySem.W.mg_of X G aC_BadHeaps, a_BadTaking := C_BadTaking, g_BadTaking := PySem.W.mg_of X G aC_BadTaking, a_BadNumber := C_BadNumber, g_BadNumber := PySem.W.mg_of X G aC_BadNumber, x_HeapError := x_HeapError, k_HeapError := k_HeapError, b_HeapError := b_HeapError, t_HeapError := t_HeapError, x_BadBound := x_BadBound, k_BadBound := k_BadBound, b_BadBound := b_BadBound, t_BadBound := t_BadBound, x_BadHeaps := x_BadHeaps, k_BadHeaps := k_BadHeaps, b_BadHeaps := b_BadHeaps, t_BadHeaps := t_BadHeaps, x_BadTaking := x_BadTaking, k_BadTaking := k_BadTaking, b_BadTaking := b_BadTaking, t_BadTaking := t_BadTaking, x_BadNumber := x_BadNumber, k_BadNumber := k_BadNumber, b_BadNumber := b_BadNumber, t_BadNumber := t_BadNumber, i_HeapError := i_HeapError, su_HeapError_HeapError := su_HeapError_HeapError, hd_HeapError := hd_HeapError, i_BadBound := i_BadBound, su_BadBound_BadBound := su_BadBound_BadBound, hd_BadBound := hd_BadBound, su_BadBound_HeapError := su_BadBound_HeapError, hg_BadBound := hg_BadBound, hk_BadBound := hk_BadBound, ha_BadBound := ha_BadBound, hm_BadBound := hm_BadBound, i_BadHeaps := i_BadHeaps, su_BadHeaps_BadHeaps := su_BadHeaps_BadHeaps, hd_BadHeaps := hd_BadHeaps, su_BadHeaps_HeapError := su_BadHeaps_HeapError, hg_BadHeaps := hg_BadHeaps, hk_BadHeaps := hk_BadHeaps, ha_BadHeaps := ha_BadHeaps, hm_BadHeaps := hm_BadHeaps, i_BadTaking := i_BadTaking, su_BadTaking_BadTaking := su_BadTaking_BadTaking, hd_BadTaking := hd_BadTaking, su_BadTaking_HeapError := su_BadTaking_HeapError, hg_BadTaking := hg_BadTaking, hk_BadTaking := hk_BadTaking, ha_BadTaking := ha_BadTaking, hm_BadTaking := hm_BadTaking, i_BadNumber := i_BadNumber, su_BadNumber_BadNumber := su_BadNumber_BadNumber, hd_BadNumber := hd_BadNumber, su_BadNumber_HeapError := su_BadNumber_HeapError, hg_BadNumber := hg_BadNumber, hk_BadNumber := hk_BadNumber, ha_BadNumber := ha_BadNumber, hm_BadNumber := hm_BadNumber, hn := hn, htk := htk, su_BadBound_BadHeaps := su_BadBound_BadHeaps, su_BadBound_BadTaking := su_BadBound_BadTaking, su_BadBound_BadNumber := su_BadBound_BadNumber, su_BadHeaps_BadBound := su_BadHeaps_BadBound, su_BadHeaps_BadTaking := su_BadHeaps_BadTaking, su_BadHeaps_BadNumber := su_BadHeaps_BadNumber, su_BadTaking_BadBound := su_BadTaking_BadBound, su_BadTaking_BadHeaps := su_BadTaking_BadHeaps, su_BadTaking_BadNumber := su_BadTaking_BadNumber, su_BadNumber_BadBound := su_BadNumber_BadBound, su_BadNumber_BadHeaps := su_BadNumber_BadHeaps, su_BadNumber_BadTaking := su_BadNumber_BadTaking, su_BadBound_ValueError := su_BadBound_ValueError, su_BadHeaps_ValueError := su_BadHeaps_ValueError, su_BadTaking_ValueError := su_BadTaking_ValueError, su_BadNumber_ValueError := su_BadNumber_ValueError, g_is_whole := PySem.W.mg_of X G a_is_whole, a_is_whole := f_is_whole, d_is_whole := _, F_is_whole := F_is_whole, b_is_whole := b_is_whole, g_is_pair := PySem.W.mg_of X G a_is_pair, a_is_pair := f_is_pair, d_is_pair := _, F_is_pair := F_is_pair, b_is_pair := b_is_pair, g_check_bound := PySem.W.mg_of X G a_check_bound, a_check_bound := f_check_bound, d_check_bound := _, F_check_bound := F_check_bound, b_check_bound := b_check_bound, g_check_heaps := PySem.W.mg_of X G a_check_heaps, a_check_heaps := f_check_heaps, d_check_heaps := _, F_check_heaps := F_check_heaps, b_check_heaps := b_check_heaps, g_may_be := PySem.W.mg_of X G a_may_be, a_may_be := f_may_be, d_may_be := _, F_may_be := F_may_be, b_may_be := b_may_be, g_can := PySem.W.mg_of X G a_can, a_can := f_can, d_can := _, F_can := F_can, b_can := b_can, g_left := PySem.W.mg_of X G a_left, a_left := f_left, d_left := _, F_left := F_left, b_left := b_left, g_pair_by := PySem.W.mg_of X G a_pair_by, a_pair_by := f_pair_by, d_pair_by := _, F_pair_by := F_pair_by, b_pair_by := b_pair_by, g_pair_with := PySem.W.mg_of X G a_pair_with, a_pair_with := f_pair_with, d_pair_with := _, F_pair_with := F_pair_with, b_pair_with := b_pair_with, g_told := PySem.W.mg_of X G a_told, a_told := f_told, d_told := _, F_told := F_told, b_told := b_told, g__law_cell_at := PySem.W.mg_of X G a__law_cell_at, a__law_cell_at := f__law_cell_at, d__law_cell_at := _, F__law_cell_at := F__law_cell_at, b__law_cell_at := b__law_cell_at, g__law_kinds := PySem.W.mg_of X G a__law_kinds, a__law_kinds := f__law_kinds, d__law_kinds := _, F__law_kinds := F__law_kinds, b__law_kinds := b__law_kinds, g__law_with_bound := PySem.W.mg_of X G a__law_with_bound, a__law_with_bound := f__law_with_bound, d__law_with_bound := _, F__law_with_bound := F__law_with_bound, b__law_with_bound := b__law_with_bound, g__law_with_heaps := PySem.W.mg_of X G a__law_with_heaps, a__law_with_heaps := f__law_with_heaps, d__law_with_heaps := _, F__law_with_heaps := F__law_with_heaps, b__law_with_heaps := b__law_with_heaps, g__law_with_taking := PySem.W.mg_of X G a__law_with_taking, a__law_with_taking := f__law_with_taking, d__law_with_taking := _, F__law_with_taking := F__law_with_taking, b__law_with_taking := b__law_with_taking, g__law_with_number := PySem.W.mg_of X G a__law_with_number, a__law_with_number := f__law_with_number, d__law_with_number := _, F__law_with_number := F__law_with_number, b__law_with_number := b__law_with_number, g__law_told := PySem.W.mg_of X G a__law_told, a__law_told := f__law_told, d__law_told := _, F__law_told := F__law_told, b__law_told := b__law_told, g__law_all := PySem.W.mg_of X G a__law_all, a__law_all := f__law_all, d__law_all := _, F__law_all := F__law_all, b__law_all := b__law_all, g_law := PySem.W.mg_of X G a_law, a_law := fa, d_law := _, F_law := F_law, b_law := b_law, n_isinstance := PySem.W.mg_none_of X G z_isinstance, n_len := PySem.W.mg_none_of X G z_len, n_max := PySem.W.mg_none_of X G z_max, n_min := PySem.W.mg_none_of X G z_min, n_abs := PySem.W.mg_none_of X G z_abs, n_int := PySem.W.mg_none_of X G z_int, n_bool := PySem.W.mg_none_of X G z_bool, n_tuple := PySem.W.mg_none_of X G z_tuple, n_range := PySem.W.mg_none_of X G z_range, n_all := PySem.W.mg_none_of X G z_all, n_ValueError := PySem.W.mg_none_of X G z_ValueError }⟩
end TW
open PySem PySem.W PyProof.Rows
set_option maxRecDepth 100000 in
set_option maxHeartbeats 0 in
theorem PySem.Challenge.cw_twoheaps_k05_refused_holds : PySem.Challenge.rw_twoheaps_k05_refused.Holds := by
  w_on; o_law; k_head; (case hw => w_witness2)
  k_fill
  refine L2.walk_ofB (l := PySem.Challenge.rw_twoheaps_k05_refused) (n := 63) (k := 9) (x := "_law_script") (CX := fun _ => L2.CX0) (sp := fun w => TW.sp_law _) rfl (by decide) rfl ⟨rfl, by decide, by decide⟩ (fun w h Y => PySem.W.kIn_of Y) ?F (fun _ _ a ns hl hb _ hS => ⟨a, ns, rfl, hS, hl, fun n hn => TH.bd_mono (TH.bd_bits (hb n hn)) (by decide), fun _ => rfl⟩) (fun _ _ _ _ _ h => h)
  case F =>
    intro w mg fa h KX G hmg
    refine' TW.all_mk KX G hmg ?aC_HeapError ?aC_BadBound ?aC_BadHeaps ?aC_BadTaking ?aC_BadNumber ?x_HeapError ?k_HeapError ?b_HeapError ?t_HeapError ?x_BadBound ?k_BadBound ?b_BadBound ?t_BadBound ?x_BadHeaps ?k_BadHeaps ?b_BadHeaps ?t_BadHeaps ?x_BadTaking ?k_BadTaking ?b_BadTaking ?t_BadTaking ?x_BadNumber ?k_BadNumber ?b_BadNumber ?t_BadNumber ?i_HeapError ?su_HeapError_HeapError ?hd_HeapError ?i_BadBound ?su_BadBound_BadBound ?hd_BadBound ?su_BadBound_HeapError ?hg_BadBound ?hk_BadBound ?ha_BadBound ?hm_BadBound ?i_BadHeaps ?su_BadHeaps_BadHeaps ?hd_BadHeaps ?su_BadHeaps_HeapError ?hg_BadHeaps ?hk_BadHeaps ?ha_BadHeaps ?hm_BadHeaps ?i_BadTaking ?su_BadTaking_BadTaking ?hd_BadTaking ?su_BadTaking_HeapError ?hg_BadTaking ?hk_BadTaking ?ha_BadTaking ?hm_BadTaking ?i_BadNumber ?su_BadNumber_BadNumber ?hd_BadNumber ?su_BadNumber_HeapError ?hg_BadNumber ?hk_BadNumber ?ha_BadNumber ?hm_BadNumber ?hn ?htk ?su_BadBound_BadHeaps ?su_BadBound_BadTaking ?su_BadBound_BadNumber ?su_BadHeaps_BadBound ?su_BadHeaps_BadTaking ?su_BadHeaps_BadNumber ?su_BadTaking_BadBound ?su_BadTaking_BadHeaps ?su_BadTaking_BadNumber ?su_BadNumber_BadBound ?su_BadNumber_BadHeaps ?su_BadNumber_BadTaking ?su_BadBound_ValueError ?su_BadHeaps_ValueError ?su_BadTaking_ValueError ?su_BadNumber_ValueError ?a_is_whole ?l_is_whole ?c_is_whole ?k_is_whole ?a_is_pair ?l_is_pair ?c_is_pair ?k_is_pair ?a_check_bound ?l_check_bound ?c_check_bound ?k_check_bound ?a_check_heaps ?l_check_heaps ?c_check_heaps ?k_check_heaps ?a_may_be ?l_may_be ?c_may_be ?k_may_be ?a_can ?l_can ?c_can ?k_can ?a_left ?l_left ?c_left ?k_left ?a_pair_by ?l_pair_by ?c_pair_by ?k_pair_by ?a_pair_with ?l_pair_with ?c_pair_with ?k_pair_with ?a_told ?l_told ?c_told ?k_told ?a__law_cell_at ?l__law_cell_at ?c__law_cell_at ?k__law_cell_at ?a__law_kinds ?l__law_kinds ?c__law_kinds ?k__law_kinds ?a__law_with_bound ?l__law_with_bound ?c__law_with_bound ?k__law_with_bound ?a__law_with_heaps ?l__law_with_heaps ?c__law_with_heaps ?k__law_with_heaps ?a__law_with_taking ?l__law_with_taking ?c__law_with_taking ?k__law_with_taking ?a__law_with_number ?l__law_with_number ?c__law_with_number ?k__law_with_number ?a__law_told ?l__law_told ?c__law_told ?k__law_told ?a__law_all ?l__law_all ?c__law_all ?k__law_all ?a_law ?l_law ?c_law ?k_law ?z_isinstance ?z_len ?z_max ?z_min ?z_abs ?z_int ?z_bool ?z_tuple ?z_range ?z_all ?z_ValueError
    (case aC_HeapError => k_is); (case aC_BadBound => k_is); (case aC_BadHeaps => k_is); (case aC_BadTaking => k_is); (case aC_BadNumber => k_is); (case x_HeapError => k_exc)
    (case k_HeapError => k_is); (case b_HeapError => k_is); (case t_HeapError => k_is); (case x_BadBound => k_exc); (case k_BadBound => k_is); (case b_BadBound => k_is)
    (case t_BadBound => k_is); (case x_BadHeaps => k_exc); (case k_BadHeaps => k_is); (case b_BadHeaps => k_is); (case t_BadHeaps => k_is); (case x_BadTaking => k_exc)
    (case k_BadTaking => k_is); (case b_BadTaking => k_is); (case t_BadTaking => k_is); (case x_BadNumber => k_exc); (case k_BadNumber => k_is); (case b_BadNumber => k_is)
    (case t_BadNumber => k_is); (case i_HeapError => k_is); (case su_HeapError_HeapError => k_is); (case hd_HeapError => k_is); (case i_BadBound => k_is); (case su_BadBound_BadBound => k_is)
    (case hd_BadBound => k_is); (case su_BadBound_HeapError => k_is); (case hg_BadBound => k_is); (case hk_BadBound => k_is); (case ha_BadBound => k_is); (case hm_BadBound => k_is)
    (case i_BadHeaps => k_is); (case su_BadHeaps_BadHeaps => k_is); (case hd_BadHeaps => k_is); (case su_BadHeaps_HeapError => k_is); (case hg_BadHeaps => k_is); (case hk_BadHeaps => k_is)
    (case ha_BadHeaps => k_is); (case hm_BadHeaps => k_is); (case i_BadTaking => k_is); (case su_BadTaking_BadTaking => k_is); (case hd_BadTaking => k_is); (case su_BadTaking_HeapError => k_is)
    (case hg_BadTaking => k_is); (case hk_BadTaking => k_is); (case ha_BadTaking => k_is); (case hm_BadTaking => k_is); (case i_BadNumber => k_is); (case su_BadNumber_BadNumber => k_is)
    (case hd_BadNumber => k_is); (case su_BadNumber_HeapError => k_is); (case hg_BadNumber => k_is); (case hk_BadNumber => k_is); (case ha_BadNumber => k_is); (case hm_BadNumber => k_is)
    (case hn => k_is); (case htk => k_is); (case su_BadBound_BadHeaps => k_is); (case su_BadBound_BadTaking => k_is); (case su_BadBound_BadNumber => k_is); (case su_BadHeaps_BadBound => k_is)
    (case su_BadHeaps_BadTaking => k_is); (case su_BadHeaps_BadNumber => k_is); (case su_BadTaking_BadBound => k_is); (case su_BadTaking_BadHeaps => k_is); (case su_BadTaking_BadNumber => k_is); (case su_BadNumber_BadBound => k_is)
    (case su_BadNumber_BadHeaps => k_is); (case su_BadNumber_BadTaking => k_is); (case su_BadBound_ValueError => k_is); (case su_BadHeaps_ValueError => k_is); (case su_BadTaking_ValueError => k_is); (case su_BadNumber_ValueError => k_is)
    (case a_is_whole => k_is); (case l_is_whole => k_is); (case c_is_whole => k_is); (case k_is_whole => k_is); (case a_is_pair => k_is); (case l_is_pair => k_is)
    (case c_is_pair => k_is); (case k_is_pair => k_is); (case a_check_bound => k_is); (case l_check_bound => k_is); (case c_check_bound => k_is); (case k_check_bound => k_is)
    (case a_check_heaps => k_is); (case l_check_heaps => k_is); (case c_check_heaps => k_is); (case k_check_heaps => k_is); (case a_may_be => k_is); (case l_may_be => k_is)
    (case c_may_be => k_is); (case k_may_be => k_is); (case a_can => k_is); (case l_can => k_is); (case c_can => k_is); (case k_can => k_is)
    (case a_left => k_is); (case l_left => k_is); (case c_left => k_is); (case k_left => k_is); (case a_pair_by => k_is); (case l_pair_by => k_is)
    (case c_pair_by => k_is); (case k_pair_by => k_is); (case a_pair_with => k_is); (case l_pair_with => k_is); (case c_pair_with => k_is); (case k_pair_with => k_is)
    (case a_told => k_is); (case l_told => k_is); (case c_told => k_is); (case k_told => k_is); (case a__law_cell_at => k_is); (case l__law_cell_at => k_is)
    (case c__law_cell_at => k_is); (case k__law_cell_at => k_is); (case a__law_kinds => k_is); (case l__law_kinds => k_is); (case c__law_kinds => k_is); (case k__law_kinds => k_is)
    (case a__law_with_bound => k_is); (case l__law_with_bound => k_is); (case c__law_with_bound => k_is); (case k__law_with_bound => k_is); (case a__law_with_heaps => k_is); (case l__law_with_heaps => k_is)
    (case c__law_with_heaps => k_is); (case k__law_with_heaps => k_is); (case a__law_with_taking => k_is); (case l__law_with_taking => k_is); (case c__law_with_taking => k_is); (case k__law_with_taking => k_is)
    (case a__law_with_number => k_is); (case l__law_with_number => k_is); (case c__law_with_number => k_is); (case k__law_with_number => k_is); (case a__law_told => k_is); (case l__law_told => k_is)
    (case c__law_told => k_is); (case k__law_told => k_is); (case a__law_all => k_is); (case l__law_all => k_is); (case c__law_all => k_is); (case k__law_all => k_is)
    (case a_law => k_is); (case l_law => k_is); (case c_law => k_is); (case k_law => k_is); (case z_isinstance => k_is); (case z_len => k_is)
    (case z_max => k_is); (case z_min => k_is); (case z_abs => k_is); (case z_int => k_is); (case z_bool => k_is); (case z_tuple => k_is)
    (case z_range => k_is); (case z_all => k_is); (case z_ValueError => k_is)
