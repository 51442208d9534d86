import PyProof.Rows.All
import PyProof.Rows.RuleB_pow
import Wide.All
import OpenK.AllK
import Wide.FinOn
import HandS.ForMost
import HandS.ForExc
import HandS.Evl
import HandS.Wide
import HandS.IsInst
import HandS.Walk
import HandS.NoneIn
import HandS.SortInts
import HandS.SortRule
import HandS.Style
import HandS.EndBits
import PySem.Challenge.RW_ringsteps_k09_great_however
set_option Elab.async false
set_option linter.all false
set_option maxRecDepth 100000
set_option maxHeartbeats 2000000
namespace RS
/-! ### sums -/
def sumN (f : Nat → Int) : Nat → Int
  | 0 => 0
  | n + 1 => sumN f n + f n
theorem sumN_congr {f g : Nat → Int} : ∀ {n : Nat}, (∀ i, i < n → f i = g i) → sumN f n = sumN g n
  | 0, _ => rfl
  | n + 1, h => by
    show sumN f n + f n = sumN g n + g n
    rw [sumN_congr (n := n) (fun i hi => h i (by omega)), h n (by omega)]
theorem sumN_add (f g : Nat → Int) : ∀ n : Nat, sumN (fun i => f i + g i) n = sumN f n + sumN g n
  | 0 => rfl
  | n + 1 => by
    have := sumN_add f g n
    show sumN (fun i => f i + g i) n + (f n + g n) = sumN f n + f n + (sumN g n + g n)
    omega
theorem sumN_sub (f g : Nat → Int) : ∀ n : Nat, sumN (fun i => f i - g i) n = sumN f n - sumN g n
  | 0 => rfl
  | n + 1 => by
    have := sumN_sub f g n
    show sumN (fun i => f i - g i) n + (f n - g n) = sumN f n + f n - (sumN g n + g n)
    omega
theorem sumN_const (c : Int) : ∀ n : Nat, sumN (fun _ => c) n = (n : Int) * c
  | 0 => by simp [sumN]
  | n + 1 => by
    have := sumN_const c n
    show sumN (fun _ => c) n + c = _
    grind
theorem sumN_le {f g : Nat → Int} : ∀ {n : Nat}, (∀ i, i < n → f i ≤ g i) → sumN f n ≤ sumN g n
  | 0, _ => Int.le_refl _
  | n + 1, h => by
    have h1 := sumN_le (n := n) (fun i hi => h i (by omega))
    have h2 := h n (by omega)
    show sumN f n + f n ≤ sumN g n + g n
    omega
/-- from the other end -/
theorem sumN_front (f : Nat → Int) : ∀ n : Nat, sumN f (n + 1) = f 0 + sumN (fun i => f (i + 1)) n
  | 0 => by simp [sumN]
  | n + 1 => by
    have h := sumN_front f n
    show sumN f (n + 1) + f (n + 1) = f 0 + (sumN (fun i => f (i + 1)) n + f (n + 1))
    omega
theorem sumN_rev (f : Nat → Int) : ∀ n : Nat, sumN (fun i => f (n - 1 - i)) n = sumN f n
  | 0 => rfl
  | n + 1 => by
    rw [sumN_front]
    show f (n + 1 - 1 - 0) + sumN (fun i => f (n + 1 - 1 - (i + 1))) n = sumN f n + f n
    have h : sumN (fun i => f (n + 1 - 1 - (i + 1))) n = sumN (fun i => f (n - 1 - i)) n := sumN_congr fun i hi => by
      have : n + 1 - 1 - (i + 1) = n - 1 - i := by omega
      rw [this]
    rw [h, sumN_rev f n]
    have : n + 1 - 1 - 0 = n := by omega
    rw [this]
    omega
theorem sumN_split (f : Nat → Int) (a : Nat) : ∀ b : Nat, sumN f (a + b) = sumN f a + sumN (fun i => f (a + i)) b
  | 0 => by simp [sumN]
  | b + 1 => by
    have h := sumN_split f a b
    show sumN f (a + b) + f (a + b) = sumN f a + (sumN (fun i => f (a + i)) b + f (a + b))
    omega
/-! ### sums of quotients -/
/-- the sum of (a i + b) / m for i below n -/
def S (n : Nat) (m a b : Int) : Int := sumN (fun i => (a * i + b) / m) n
theorem tri : ∀ n : Nat, sumN (fun i => (i : Int)) n = (n : Int) * (n - 1) / 2
  | 0 => by simp [sumN]
  | n + 1 => by
    have h := tri n
    show sumN (fun i => (i : Int)) n + (n : Int) = _
    rw [h]
    have e : ((n + 1 : Nat) : Int) * (((n + 1 : Nat) : Int) - 1) = (n : Int) * (n - 1) + 2 * n := by grind
    rw [e, Int.add_mul_ediv_left _ _ (by omega)]
theorem sumN_mul (c : Int) (f : Nat → Int) : ∀ n : Nat, sumN (fun i => c * f i) n = c * sumN f n
  | 0 => by simp [sumN]
  | n + 1 => by
    have h := sumN_mul c f n
    show sumN (fun i => c * f i) n + c * f n = c * (sumN f n + f n)
    grind
theorem term_red (m a b i : Int) (hm : 0 < m) : (a * i + b) / m = (a / m) * i + b / m + ((a % m) * i + b % m) / m := by
  have h1 := Int.emod_add_mul_ediv a m
  have h2 := Int.emod_add_mul_ediv b m
  have h : a * i + b = ((a % m) * i + b % m) + m * ((a / m) * i + b / m) := by grind
  rw [h, Int.add_mul_ediv_left _ _ (by omega)]
  omega
/-- the step that takes whole multiples out -/
theorem S_red (n : Nat) (m a b : Int) (hm : 0 < m) : S n m a b = (n : Int) * (n - 1) / 2 * (a / m) + (n : Int) * (b / m) + S n m (a % m) (b % m) := by
  unfold S
  rw [sumN_congr (fun i _ => term_red m a b i hm), sumN_add, sumN_add, sumN_mul, tri, sumN_const]
  grind
theorem S_redb (n : Nat) (m a b : Int) (hm : 0 < m) : S n m a b = (n : Int) * (b / m) + S n m a (b % m) := by
  unfold S
  have : ∀ i : Nat, i < n → (a * i + b) / m = b / m + (a * i + b % m) / m := fun i _ => by
    have h2 := Int.emod_add_mul_ediv b m
    have h : a * (i : Int) + b = (a * i + b % m) + m * (b / m) := by omega
    rw [h, Int.add_mul_ediv_left _ _ (by omega)]
    have e : (a * (i : Int) + b % m + m * (b / m)) = a * i + b := by omega
    omega
  rw [sumN_congr this, sumN_add, sumN_const]
theorem S_zero (n : Nat) (m a b : Int) (hm : 0 < m) (ha : 0 ≤ a) (hb : 0 ≤ b) (h : a * n + b < m) : S n m a b = 0 := by
  unfold S
  rw [sumN_congr (g := fun _ => 0), sumN_const]
  · simp
  · intro i hi
    have h1 : a * (i : Int) ≤ a * n := Int.mul_le_mul_of_nonneg_left (by omega) ha
    have h2 : 0 ≤ a * (i : Int) := Int.mul_nonneg ha (by omega)
    exact Int.ediv_eq_zero_of_lt (by omega) (by omega)
/-- the sum, from the other side: by how many of the second number -/
def T (n : Nat) (m a b : Int) : Int := sumN (fun j => (a * n + b - (j + 1) * m) / a) ((a * n + b) / m).toNat
theorem T_step (n : Nat) (m a b : Int) (ha : 0 < a) (ham : a < m) (hb : 0 ≤ b) : T (n + 1) m a b = T n m a b + (a * n + b) / m := by
  have hm : 0 < m := by omega
  have x0 : 0 ≤ a * (n : Int) + b := by have := Int.mul_nonneg (Int.le_of_lt ha) (Int.natCast_nonneg n); omega
  have hq0 : 0 ≤ (a * (n : Int) + b) / m := Int.ediv_nonneg x0 (by omega)
  generalize hN : ((a * (n : Int) + b) / m).toNat = N
  have hNq : (N : Int) = (a * (n : Int) + b) / m := by omega
  have d1 := Int.emod_add_mul_ediv (a * (n : Int) + b) m
  have d2 := Int.emod_nonneg (a * (n : Int) + b) (show m ≠ 0 by omega)
  have d3 := Int.emod_lt_of_pos (a * (n : Int) + b) hm
  rw [← hNq] at d1
  have big : a * ((n + 1 : Nat) : Int) + b = a * n + b + a := by grind
  have termEq : ∀ j : Nat, (a * ((n + 1 : Nat) : Int) + b - ((j : Int) + 1) * m) / a = (a * n + b - ((j : Int) + 1) * m) / a + 1 := fun j => by
    have e : a * ((n + 1 : Nat) : Int) + b - ((j : Int) + 1) * m = (a * n + b - ((j : Int) + 1) * m) + a * 1 := by rw [big]; omega
    rw [e, Int.add_mul_ediv_left _ _ (by omega)]
  have sumEq : sumN (fun j => (a * ((n + 1 : Nat) : Int) + b - ((j : Int) + 1) * m) / a) N = T n m a b + N := by
    rw [sumN_congr (fun j _ => termEq j), sumN_add, sumN_const]
    unfold T
    rw [hN]
    omega
  have mul1 : m * ((N : Int) + 1) = m * N + m := by grind
  have mul2 : m * ((N : Int) + 2) = m * N + 2 * m := by grind
  have mul3 : ((N : Int) + 1) * m = m * N + m := by grind
  have mul4 : ((N : Int) + 2) * m = m * N + 2 * m := by grind
  have mul5 : (N : Int) * m = m * N := Int.mul_comm _ _
  by_cases hc : a * (n : Int) + b + a < m * ((N : Int) + 1)
  · -- N stays
    have q : (a * ((n + 1 : Nat) : Int) + b) / m = N := by
      rw [big]
      apply Int.le_antisymm
      · have : (a * (n : Int) + b + a) / m < (N : Int) + 1 := Int.ediv_lt_of_lt_mul hm (by omega)
        omega
      · exact Int.le_ediv_of_mul_le hm (by omega)
    unfold T
    rw [q]
    have : ((N : Int)).toNat = N := by omega
    have s := sumEq
    unfold T at s
    rw [this, s, hN, hNq]
  · have q : (a * ((n + 1 : Nat) : Int) + b) / m = (N : Int) + 1 := by
      rw [big]
      apply Int.le_antisymm
      · have : (a * (n : Int) + b + a) / m < (N : Int) + 2 := Int.ediv_lt_of_lt_mul hm (by omega)
        omega
      · exact Int.le_ediv_of_mul_le hm (by omega)
    have e1 : T (n + 1) m a b = sumN (fun j => (a * ((n + 1 : Nat) : Int) + b - ((j : Int) + 1) * m) / a) (N + 1) := by
      unfold T
      rw [q]
      have : ((N : Int) + 1).toNat = N + 1 := by omega
      rw [this]
    rw [e1]
    show sumN (fun j => (a * ((n + 1 : Nat) : Int) + b - ((j : Int) + 1) * m) / a) N + (a * ((n + 1 : Nat) : Int) + b - ((N : Int) + 1) * m) / a = _
    rw [sumEq, termEq]
    have z : (a * (n : Int) + b - ((N : Int) + 1) * m) / a = -1 := by
      apply Int.le_antisymm
      · have : (a * (n : Int) + b - ((N : Int) + 1) * m) / a < 0 := Int.ediv_lt_of_lt_mul ha (by omega)
        omega
      · exact Int.le_ediv_of_mul_le ha (by omega)
    rw [z, ← hNq]
    omega
theorem S_T (m a b : Int) (ha : 0 < a) (ham : a < m) (hb : 0 ≤ b) (hbm : b < m) : ∀ n : Nat, S n m a b = T n m a b
  | 0 => by
    have : (a * ((0 : Nat) : Int) + b) / m = 0 := by
      have e : a * ((0 : Nat) : Int) + b = b := by simp
      rw [e]
      exact Int.ediv_eq_zero_of_lt hb hbm
    unfold S T
    rw [this]
    rfl
  | n + 1 => by
    rw [T_step n m a b ha ham hb, ← S_T m a b ha ham hb hbm n]
    rfl
/-- the step that changes sides -/
theorem S_flip (n : Nat) (m a b : Int) (ha : 0 < a) (ham : a < m) (hb : 0 ≤ b) (hbm : b < m) : S n m a b = S ((a * n + b) / m).toNat a m ((a * n + b) % m) := by
  rw [S_T m a b ha ham hb hbm n]
  have hm : 0 < m := by omega
  have x0 : 0 ≤ a * (n : Int) + b := by have := Int.mul_nonneg (Int.le_of_lt ha) (Int.natCast_nonneg n); omega
  have hq0 : 0 ≤ (a * (n : Int) + b) / m := Int.ediv_nonneg x0 (by omega)
  unfold T S
  generalize hN : ((a * (n : Int) + b) / m).toNat = N
  have hNq : (N : Int) = (a * (n : Int) + b) / m := by omega
  have d1 := Int.emod_add_mul_ediv (a * (n : Int) + b) m
  rw [← hNq] at d1
  rw [← sumN_rev]
  refine sumN_congr fun i hi => ?_
  have e : ((N - 1 - i : Nat) : Int) = (N : Int) - 1 - i := by omega
  rw [e]
  congr 1
  grind
/-! ### how many marks stand up to a place -/
def hit (p s x : Int) (k : Nat) : Int := if (k : Int) * s % p ≤ x then 1 else 0
def cnt (p s : Int) (n : Nat) (x : Int) : Int := sumN (hit p s x) n
theorem hit_q (p s x : Int) (k : Nat) (hx : 0 ≤ x) (hxp : x < p) : (s * k + 0) / p - (s * k + (-x - 1)) / p = hit p s x k := by
  have hp : 0 < p := by omega
  unfold hit
  have c : (k : Int) * s = s * k := Int.mul_comm _ _
  rw [c]
  generalize s * (k : Int) = y
  have d1 := Int.emod_add_mul_ediv y p
  have d2 := Int.emod_nonneg y (show p ≠ 0 by omega)
  have d3 := Int.emod_lt_of_pos y hp
  generalize hr : y % p = r at *
  generalize hq : y / p = q at *
  have e : y + (-x - 1) = (r - x - 1) + p * q := by omega
  rw [e, Int.add_mul_ediv_left _ _ (by omega), Int.add_zero, hq]
  by_cases h : r ≤ x
  · rw [if_pos h]
    have : (r - x - 1) / p = -1 := by
      apply Int.le_antisymm
      · have : (r - x - 1) / p < 0 := Int.ediv_lt_of_lt_mul hp (by omega)
        omega
      · exact Int.le_ediv_of_mul_le hp (by omega)
    omega
  · rw [if_neg h]
    have : (r - x - 1) / p = 0 := Int.ediv_eq_zero_of_lt (by omega) (by omega)
    omega
theorem cnt_S (p s : Int) (n : Nat) (x : Int) (hx : 0 ≤ x) (hxp : x < p) : S n p s 0 - S n p s (-x - 1) = cnt p s n x := by
  unfold S cnt
  rw [← sumN_sub]
  exact sumN_congr fun k _ => hit_q p s x k hx hxp
/-- the law's own sum: of numbers that are not below 0 -/
theorem cnt_S' (p s : Int) (n : Nat) (x : Int) (hx : 0 ≤ x) (hxp : x < p) : n + S n p s 0 - S n p s (p - x - 1) = cnt p s n x := by
  rw [← cnt_S p s n x hx hxp]
  have : S n p s (p - x - 1) = n + S n p s (-x - 1) := by
    unfold S
    have : ∀ i : Nat, i < n → (s * i + (p - x - 1)) / p = 1 + (s * i + (-x - 1)) / p := fun i _ => by
      have e : s * (i : Int) + (p - x - 1) = (s * i + (-x - 1)) + p * 1 := by omega
      rw [e, Int.add_mul_ediv_left _ _ (by omega)]
      omega
    rw [sumN_congr this, sumN_add, sumN_const]
    omega
  omega
theorem hit_nn (p s x : Int) (k : Nat) : 0 ≤ hit p s x k ∧ hit p s x k ≤ 1 := by
  unfold hit
  split <;> omega
theorem cnt_nn (p s : Int) (n : Nat) (x : Int) : 0 ≤ cnt p s n x := by
  have h := sumN_le (f := fun _ => 0) (g := hit p s x) (n := n) fun i _ => (hit_nn p s x i).1
  rw [sumN_const] at h
  simpa [cnt] using h
theorem cnt_le (p s : Int) (n : Nat) (x : Int) : cnt p s n x ≤ n := by
  have h := sumN_le (f := hit p s x) (g := fun _ => 1) (n := n) fun i _ => (hit_nn p s x i).2
  rw [sumN_const] at h
  simpa [cnt] using h
theorem cnt_mono (p s : Int) (n : Nat) {x y : Int} (h : x ≤ y) : cnt p s n x ≤ cnt p s n y := by
  refine sumN_le fun i _ => ?_
  unfold hit
  split <;> split <;> omega
theorem cnt_neg (p s : Int) (n : Nat) (x : Int) (hp : 0 < p) (h : x < 0) : cnt p s n x = 0 := by
  unfold cnt
  rw [sumN_congr (g := fun _ => 0), sumN_const]
  · simp
  · intro i _
    unfold hit
    have := Int.emod_nonneg ((i : Int) * s) (show p ≠ 0 by omega)
    rw [if_neg (by omega)]
theorem cnt_all (p s : Int) (n : Nat) (x : Int) (hp : 0 < p) (h : p - 1 ≤ x) : cnt p s n x = n := by
  unfold cnt
  rw [sumN_congr (g := fun _ => 1), sumN_const]
  · simp
  · intro i _
    unfold hit
    have := Int.emod_lt_of_pos ((i : Int) * s) hp
    rw [if_pos (by omega)]
end RS
namespace RS
/-! ### the greatest common number -/
def G (p s : Int) : Int := (Int.gcd p s : Nat)
def top (p s : Int) : Int := p / G p s
theorem G_pos {p s : Int} (hp : 0 < p) : 0 < G p s := by
  unfold G
  have : 0 < Int.gcd p s := Int.gcd_pos_of_ne_zero_left _ (by omega)
  omega
theorem G_dl (p s : Int) : G p s ∣ p := Int.gcd_dvd_left ..
theorem G_dr (p s : Int) : G p s ∣ s := Int.gcd_dvd_right ..
theorem G_step (a b : Int) (hb : 0 < b) : G b (a % b) = G a b := by
  unfold G
  have : Int.gcd b (a % b) = Int.gcd a b := by
    rw [Int.gcd_comm]
    have h := Int.emod_add_mul_ediv a b
    have e : a % b = a + b * (-(a / b)) := by grind
    rw [e, Int.gcd_add_mul_left_left]
  rw [this]
theorem G_zero {a : Int} (h : 0 ≤ a) : G a 0 = a := by
  unfold G
  rw [Int.gcd_zero_right]
  omega
theorem G_le {p s : Int} (hp : 0 < p) : G p s ≤ p := Int.le_of_dvd hp (G_dl p s)
theorem top_mul {p s : Int} (hp : 0 < p) : G p s * top p s = p := by
  unfold top
  exact Int.mul_ediv_cancel' (G_dl p s)
theorem top_pos {p s : Int} (hp : 0 < p) : 0 < top p s := by
  have h1 := top_mul (s := s) hp
  have h2 := G_pos (s := s) hp
  rcases Int.lt_trichotomy 0 (top p s) with h | h | h
  · exact h
  · rw [← h] at h1; omega
  · have := Int.mul_neg_of_pos_of_neg h2 h; omega
theorem top_le {p s : Int} (hp : 0 < p) : top p s ≤ p := by
  have h1 := top_mul (s := s) hp
  have h2 := G_pos (s := s) hp
  have h3 := top_pos (s := s) hp
  have : 1 * top p s ≤ G p s * top p s := Int.mul_le_mul_of_nonneg_right (by omega) (by omega)
  omega
theorem step_mul (p s : Int) : G p s * (s / G p s) = s := Int.mul_ediv_cancel' (G_dr p s)
/-- what both are divided by has nothing in common -/
theorem coprime_of {p s : Int} (hp : 0 < p) : Int.gcd (top p s) (s / G p s) = 1 := by
  unfold top G
  have : 0 < Int.gcd p s := Int.gcd_pos_of_ne_zero_left _ (by omega)
  exact Int.gcd_ediv_gcd_ediv_gcd (Int.gcd_pos_of_ne_zero_left _ (by omega))
theorem dvd_of_coprime {m a d : Int} (h : Int.gcd m a = 1) (hd : m ∣ d * a) : m ∣ d := by
  have h1 : m ∣ (Int.gcd m a : Int) * d := Int.dvd_gcd_mul_iff_dvd_mul.mpr (by rw [Int.mul_comm]; exact hd)
  rw [h] at h1
  simpa using h1
/-- two marks at one place are whole turns apart -/
theorem same_place {p s i j : Int} (hp : 0 < p) (h : i * s % p = j * s % p) : top p s ∣ (i - j) := by
  have h0 : p ∣ (i - j) * s := by
    rw [Int.sub_mul]
    exact Int.dvd_of_emod_eq_zero (Int.emod_eq_emod_iff_emod_sub_eq_zero.mp h)
  have h1 : G p s * top p s ∣ G p s * ((i - j) * (s / G p s)) := by
    rw [top_mul hp]
    have := step_mul p s
    have e : G p s * ((i - j) * (s / G p s)) = (i - j) * s := by grind
    rw [e]
    exact h0
  have h2 : top p s ∣ (i - j) * (s / G p s) := Int.dvd_of_mul_dvd_mul_left (by have := G_pos (s := s) hp; omega) h1
  exact dvd_of_coprime (coprime_of hp) h2
theorem whole_turn {p s d : Int} (hp : 0 < p) (h : top p s ∣ d) : p ∣ d * s := by
  obtain ⟨c, rfl⟩ := h
  refine ⟨c * (s / G p s), ?_⟩
  have h1 := top_mul (s := s) hp
  have h2 := step_mul p s
  have : top p s * c * s = top p s * c * (G p s * (s / G p s)) := by rw [h2]
  rw [this]
  have : p * (c * (s / G p s)) = (G p s * top p s) * (c * (s / G p s)) := by rw [h1]
  rw [this]
  grind
theorem marks_apart {p s i j : Int} (hp : 0 < p) (hi : 0 ≤ i) (hit : i < top p s) (hj : 0 ≤ j) (hjt : j < top p s) (h : i * s % p = j * s % p) : i = j := by
  obtain ⟨c, hc⟩ := same_place hp h
  have ht := top_pos (s := s) hp
  rcases Int.lt_trichotomy c 0 with h | h | h
  · have : top p s * c ≤ top p s * (-1) := Int.mul_le_mul_of_nonneg_left (by omega) (by omega)
    omega
  · subst h; omega
  · have : top p s * 1 ≤ top p s * c := Int.mul_le_mul_of_nonneg_left (by omega) (by omega)
    omega
/-! ### the inverse -/
/-- what the division with remainder keeps -/
structure Eu (a m one other first second : Int) : Prop where
  f : (first * a - one) % m = 0
  g : (second * a - other) % m = 0
  o : 0 ≤ one
  r : 0 ≤ other
  q : Int.gcd one other = Int.gcd m a
  /-- how great they may be -/
  b : (second.natAbs : Int) * one + (first.natAbs : Int) * other ≤ m
theorem Eu.start {a m : Int} (hm : 0 < m) : Eu a m m (a % m) 0 1 where
  f := by simp
  g := by
    have h := Int.emod_add_mul_ediv a m
    have e : 1 * a - a % m = m * (a / m) := by omega
    rw [e]; exact Int.mul_emod_right ..
  o := by omega
  r := Int.emod_nonneg _ (by omega)
  q := by
    have := G_step a m hm
    unfold G at this
    rw [Int.gcd_comm m a]
    omega
  b := by simp
theorem Eu.next {a m one other first second : Int} (h : Eu a m one other first second) (ho : 0 < other) :
    Eu a m other (one - one / other * other) second (first - one / other * second) := by
  obtain ⟨f, g, o, r, q, b⟩ := h
  have hd := Int.emod_add_mul_ediv one other
  have h1 := Int.emod_nonneg one (show other ≠ 0 by omega)
  have e : one - one / other * other = one % other := by grind
  have t0 : 0 ≤ one / other := Int.ediv_nonneg o r
  refine ⟨g, ?_, r, by omega, ?_, ?_⟩
  · have e2 : (first - one / other * second) * a - (one - one / other * other) = (first * a - one) - (one / other) * (second * a - other) := by grind
    rw [e2]
    obtain ⟨x, hx⟩ := Int.dvd_of_emod_eq_zero f
    obtain ⟨y, hy⟩ := Int.dvd_of_emod_eq_zero g
    rw [hx, hy]
    have e3 : m * x - one / other * (m * y) = m * (x - one / other * y) := by grind
    rw [e3]; exact Int.mul_emod_right ..
  · rw [e, ← q]
    have := G_step one other ho
    unfold G at this
    omega
  · have k : ((first - one / other * second).natAbs : Int) ≤ first.natAbs + one / other * second.natAbs := by
      have h2 : (one / other * second).natAbs = (one / other).natAbs * second.natAbs := Int.natAbs_mul ..
      have h3 : ((one / other).natAbs : Int) = one / other := Int.natAbs_of_nonneg t0
      have h4 : (((one / other * second).natAbs : Nat) : Int) = one / other * second.natAbs := by rw [h2, Int.natCast_mul, h3]
      omega
    have k2 : ((first - one / other * second).natAbs : Int) * other ≤ (first.natAbs + one / other * second.natAbs) * other := Int.mul_le_mul_of_nonneg_right k r
    have k3 : (first.natAbs + one / other * (second.natAbs : Int)) * other + second.natAbs * (one - one / other * other) = second.natAbs * one + first.natAbs * other := by grind
    omega
theorem Eu.done {a m one first second : Int} (h : Eu a m one 0 first second) (hm : 0 < m) (hg : Int.gcd m a = 1) : (first % m * a) % m = 1 % m := by
  have q := h.q
  rw [Int.gcd_zero_right, hg] at q
  have : one = 1 := by have := h.o; omega
  subst this
  have f := h.f
  have := (Int.emod_eq_emod_iff_emod_sub_eq_zero (m := first * a) (n := m) (k := 1)).mpr f
  rw [← this, Int.mul_emod, Int.emod_emod, ← Int.mul_emod]
/-- r is the inverse: the mark of a place that is a multiple -/
theorem mark_at_place {p s r x : Int} (hp : 0 < p) (hr : (r * (s / G p s)) % top p s = 1 % top p s) (hx : 0 ≤ x) (hxp : x < p) (hg : x % G p s = 0) :
    (x / G p s * r % top p s) * s % p = x := by
  have ht := top_pos (s := s) hp
  have hG := G_pos (s := s) hp
  have h1 := top_mul (s := s) hp
  have h2 := step_mul p s
  have h3 : G p s * (x / G p s) = x := Int.mul_ediv_cancel' (Int.dvd_of_emod_eq_zero hg)
  generalize hm : x / G p s * r % top p s = m
  have d1 := Int.emod_add_mul_ediv (x / G p s * r) (top p s)
  rw [hm] at d1
  -- r a = 1 + top c
  obtain ⟨c, hc⟩ : top p s ∣ (r * (s / G p s) - 1) := Int.dvd_of_emod_eq_zero (Int.emod_eq_emod_iff_emod_sub_eq_zero.mp hr)
  have key : m * s = x + p * (x / G p s * c - (x / G p s * r / top p s) * (s / G p s)) := by
    have e1 : m = x / G p s * r - top p s * (x / G p s * r / top p s) := by omega
    have e2 : r * (s / G p s) = 1 + top p s * c := by omega
    generalize x / G p s * r / top p s = w at *
    generalize hb : s / G p s = b at *
    generalize hy : x / G p s = y at *
    generalize top p s = t at *
    generalize G p s = g at *
    rw [e1, ← h2, ← h1]
    have : (y * r - t * w) * (g * b) = g * y * (r * b) - g * t * w * b := by grind
    rw [this, e2]
    grind
  rw [key, Int.add_mul_emod_self_left]
  exact Int.emod_eq_of_lt hx hxp
theorem place_mult {p s k : Int} (hp : 0 < p) : (k * s % p) % G p s = 0 := by
  have h1 : G p s ∣ k * s := Int.dvd_mul_of_dvd_right (G_dr p s)
  have h2 : G p s ∣ p := G_dl p s
  have h := Int.emod_add_mul_ediv (k * s) p
  have : k * s % p = k * s - p * (k * s / p) := by omega
  rw [this]
  exact Int.emod_eq_zero_of_dvd (Int.dvd_sub h1 (Int.dvd_mul_of_dvd_left h2))
theorem mark_back {p s r k : Int} (hp : 0 < p) (hr : (r * (s / G p s)) % top p s = 1 % top p s) (hk : 0 ≤ k) (hkt : k < top p s) :
    (k * s % p) / G p s * r % top p s = k := by
  have ht := top_pos (s := s) hp
  refine marks_apart (s := s) hp (Int.emod_nonneg _ (by omega)) (Int.emod_lt_of_pos _ ht) hk hkt ?_
  exact mark_at_place hp hr (Int.emod_nonneg _ (by omega)) (Int.emod_lt_of_pos _ hp) (place_mult hp)
/-! ### ranks -/
def one_ (p s x : Int) (k : Nat) : Int := if (k : Int) * s % p = x then 1 else 0
theorem cnt_diff (p s : Int) (n : Nat) (x : Int) : cnt p s n x - cnt p s n (x - 1) = sumN (one_ p s x) n := by
  unfold cnt
  rw [← sumN_sub]
  refine sumN_congr fun k _ => ?_
  unfold hit one_
  split <;> split <;> split <;> omega
theorem sumN_nn {f : Nat → Int} {n : Nat} (h : ∀ i, i < n → 0 ≤ f i) : 0 ≤ sumN f n := by
  have := sumN_le (f := fun _ => 0) (g := f) (n := n) h
  rw [sumN_const] at this
  simpa using this
theorem sumN_ge {f : Nat → Int} : ∀ {n k : Nat}, (∀ i, i < n → 0 ≤ f i) → k < n → f k ≤ sumN f n
  | n + 1, k, h, hk => by
    show f k ≤ sumN f n + f n
    by_cases e : k = n
    · subst e
      have := sumN_nn (f := f) (n := k) fun i hi => h i (by omega)
      omega
    · have := sumN_ge (f := f) (n := n) (k := k) (fun i hi => h i (by omega)) (by omega)
      have := h n (by omega)
      omega
theorem one_nn (p s x : Int) (k : Nat) : 0 ≤ one_ p s x k := by unfold one_; split <;> omega
theorem one_apart {p s x : Int} (hp : 0 < p) : ∀ {n : Nat}, (n : Int) ≤ top p s → sumN (one_ p s x) n ≤ 1
  | 0, _ => by simp [sumN]
  | n + 1, h => by
    show sumN (one_ p s x) n + one_ p s x n ≤ 1
    by_cases e : (n : Int) * s % p = x
    · have z : sumN (one_ p s x) n = 0 := by
        rw [sumN_congr (g := fun _ => 0), sumN_const]
        · simp
        · intro i hi
          unfold one_
          rw [if_neg]
          intro e2
          have := marks_apart (p := p) (s := s) (i := i) (j := n) hp (by omega) (by omega) (by omega) (by omega) (e2.trans e.symm)
          omega
      rw [z]
      unfold one_
      rw [if_pos e]
      omega
    · have := one_apart (s := s) (x := x) hp (n := n) (by omega)
      unfold one_
      rw [if_neg e]
      unfold one_ at this
      omega
theorem one_some {p s x : Int} : ∀ {n : Nat}, 0 < sumN (one_ p s x) n → ∃ k : Nat, k < n ∧ (k : Int) * s % p = x
  | 0, h => by simp [sumN] at h
  | n + 1, h => by
    by_cases e : (n : Int) * s % p = x
    · exact ⟨n, by omega, e⟩
    · have h' : 0 < sumN (one_ p s x) n + one_ p s x n := h
      have z : one_ p s x n = 0 := by unfold one_; rw [if_neg e]
      obtain ⟨k, h1, h2⟩ := one_some (p := p) (s := s) (x := x) (n := n) (by omega)
      exact ⟨k, by omega, h2⟩
/-- behind a search: the least place up to which more than t stand holds a mark -/
theorem found_place {p s x t : Int} {n : Nat} (hp : 0 < p) (hn : (n : Int) ≤ top p s) (h1 : t < cnt p s n x) (h2 : cnt p s n (x - 1) ≤ t) :
    ∃ k : Nat, k < n ∧ (k : Int) * s % p = x ∧ cnt p s n x = t + 1 := by
  have d := cnt_diff p s n x
  have u := one_apart (x := x) hp hn
  obtain ⟨k, hk, e⟩ := one_some (p := p) (s := s) (x := x) (n := n) (by omega)
  exact ⟨k, hk, e, by omega⟩
theorem cnt_at {p s x : Int} {n k : Nat} (hk : k < n) (e : (k : Int) * s % p = x) : cnt p s n (x - 1) < cnt p s n x := by
  have d := cnt_diff p s n x
  have := sumN_ge (f := one_ p s x) (n := n) (k := k) (fun i _ => one_nn p s x i) hk
  have z : one_ p s x k = 1 := by unfold one_; rw [if_pos e]
  omega
theorem cnt_at1 {p s x : Int} {n k : Nat} (hp : 0 < p) (hn : (n : Int) ≤ top p s) (hk : k < n) (e : (k : Int) * s % p = x) : cnt p s n x = cnt p s n (x - 1) + 1 := by
  have d := cnt_diff p s n x
  have u := one_apart (x := x) hp hn
  have := cnt_at hk e
  omega
/-- no two marks have one rank -/
theorem rank_apart {p s : Int} {n i j : Nat} (hp : 0 < p) (hn : (n : Int) ≤ top p s) (hi : i < n) (hj : j < n) (h : cnt p s n ((i : Int) * s % p) = cnt p s n ((j : Int) * s % p)) : i = j := by
  have a : ∀ {x y : Int}, x < y → (∃ k, k < n ∧ (k : Int) * s % p = y) → cnt p s n x < cnt p s n y := fun {x y} hxy ⟨k, hk, e⟩ => by
    have h1 := cnt_at hk e
    have h2 := cnt_mono p s n (show x ≤ y - 1 by omega)
    omega
  rcases Int.lt_trichotomy ((i : Int) * s % p) ((j : Int) * s % p) with q | q | q
  · have := a q ⟨j, hj, rfl⟩; omega
  · have := marks_apart (s := s) hp (by omega) (show (i : Int) < top p s by omega) (by omega) (show (j : Int) < top p s by omega) q
    omega
  · have := a q ⟨i, hi, rfl⟩; omega
theorem rank_nn {p s : Int} {n i : Nat} (hi : i < n) : 1 ≤ cnt p s n ((i : Int) * s % p) := by
  have h1 := cnt_at (x := (i : Int) * s % p) hi rfl
  have h2 := cnt_nn p s n ((i : Int) * s % p - 1)
  omega
end RS
namespace RS
/-! ### the first mark in a stretch -/
def In (p s b e k : Int) : Prop := b ≤ k * s % p ∧ k * s % p ≤ e
instance (p s b e k : Int) : Decidable (In p s b e k) := by unfold In; exact inferInstance
structure FirstIn (p s b e k : Int) : Prop where
  nn : 0 ≤ k
  is : In p s b e k
  no : ∀ j, 0 ≤ j → j < k → ¬ In p s b e j
theorem FirstIn.lt {p s b e k : Int} (h : FirstIn p s b e k) (hp : 0 < p) : k < top p s := by
  rcases Int.lt_or_le k (top p s) with h1 | h1
  · exact h1
  · have ht := top_pos (s := s) hp
    have d := whole_turn (s := s) hp (Int.dvd_refl (top p s))
    have e1 : (k - top p s) * s % p = k * s % p := by
      rw [Int.sub_mul]
      obtain ⟨c, hc⟩ := d
      rw [hc]
      have : k * s - p * c = k * s + p * (-c) := by grind
      rw [this, Int.add_mul_emod_self_left]
    exact absurd (show In p s b e (k - top p s) from by unfold In; rw [e1]; exact h.is) (h.no _ (by omega) (by omega))
theorem FirstIn.uniq {p s b e k m : Int} (h : FirstIn p s b e k) (h' : FirstIn p s b e m) : k = m := by
  rcases Int.lt_trichotomy k m with q | q | q
  · exact absurd h.is (h'.no _ h.nn q)
  · exact q
  · exact absurd h'.is (h.no _ h'.nn q)
theorem first_zero {p s b e : Int} (hb : b ≤ 0) (he : 0 ≤ e) : FirstIn p s b e 0 :=
  ⟨by omega, ⟨by simpa using hb, by simpa using he⟩, fun j h1 h2 => by omega⟩
theorem refl_place {p s j : Int} (hp : 0 < p) : j * (p - s) % p = if j * s % p = 0 then 0 else p - j * s % p := by
  have h := Int.emod_add_mul_ediv (j * s) p
  have h1 := Int.emod_nonneg (j * s) (show p ≠ 0 by omega)
  have h2 := Int.emod_lt_of_pos (j * s) hp
  have e : j * (p - s) = -(j * s % p) + p * (j - j * s / p) := by grind
  rw [e, Int.add_mul_emod_self_left]
  split
  · rename_i z; rw [z]; simp
  · rename_i z
    have e2 : -(j * s % p) = (p - j * s % p) + p * (-1) := by omega
    rw [e2, Int.add_mul_emod_self_left]
    exact Int.emod_eq_of_lt (by omega) (by omega)
theorem in_reflect {p s b e j : Int} (hp : 0 < p) (hb : 0 < b) (he : e < p) : In p (p - s) (p - e) (p - b) j ↔ In p s b e j := by
  unfold In
  rw [refl_place hp]
  have h1 := Int.emod_nonneg (j * s) (show p ≠ 0 by omega)
  split <;> omega
theorem first_reflect {p s b e k : Int} (hp : 0 < p) (hb : 0 < b) (he : e < p) (h : FirstIn p (p - s) (p - e) (p - b) k) : FirstIn p s b e k :=
  ⟨h.nn, (in_reflect hp hb he).mp h.is, fun j h1 h2 q => h.no j h1 h2 ((in_reflect hp hb he).mpr q)⟩
/-- rounded up -/
theorem ceil_spec {x s : Int} (hs : 0 < s) : x ≤ (x + s - 1) / s * s ∧ (x + s - 1) / s * s < x + s := by
  have h := Int.emod_add_mul_ediv (x + s - 1) s
  have h1 := Int.emod_nonneg (x + s - 1) (show s ≠ 0 by omega)
  have h2 := Int.emod_lt_of_pos (x + s - 1) hs
  rw [Int.mul_comm s] at h
  omega
theorem ceil_le {x s k : Int} (hs : 0 < s) (h : x ≤ k * s) : (x + s - 1) / s ≤ k := by
  obtain ⟨h1, h2⟩ := ceil_spec (x := x) hs
  rcases Int.lt_or_le k ((x + s - 1) / s) with q | q
  · have : (k + 1) * s ≤ (x + s - 1) / s * s := Int.mul_le_mul_of_nonneg_right (by omega) (by omega)
    rw [Int.add_mul, Int.one_mul] at this
    omega
  · exact q
theorem ceil_nn {x s : Int} (hs : 0 < s) (hx : 0 ≤ x) : 0 ≤ (x + s - 1) / s := Int.ediv_nonneg (by omega) (by omega)
theorem first_direct {p s b e : Int} (hs : 0 < s) (hb : 0 < b) (he : e < p) (h : (b + s - 1) / s * s ≤ e) : FirstIn p s b e ((b + s - 1) / s) := by
  obtain ⟨h1, h2⟩ := ceil_spec (x := b) hs
  have h0 := ceil_nn hs (show 0 ≤ b by omega)
  generalize (b + s - 1) / s = t at *
  have small : ∀ j, 0 ≤ j → j ≤ t → j * s % p = j * s := fun j j0 jt => by
    have a : 0 ≤ j * s := Int.mul_nonneg j0 (by omega)
    have c : j * s ≤ t * s := Int.mul_le_mul_of_nonneg_right jt (by omega)
    exact Int.emod_eq_of_lt a (by omega)
  refine ⟨h0, ⟨by rw [small t h0 (by omega)]; omega, by rw [small t h0 (by omega)]; omega⟩, fun j j0 jt q => ?_⟩
  obtain ⟨q1, q2⟩ := q
  rw [small j j0 (by omega)] at q1
  have : (j + 1) * s ≤ t * s := Int.mul_le_mul_of_nonneg_right (by omega) (by omega)
  rw [Int.add_mul, Int.one_mul] at this
  omega
/-- no multiple within: both ends lie between the same two -/
theorem same_block {s b e : Int} (hs : 0 < s) (hbe : b ≤ e) (h : e < (b + s - 1) / s * s) : e / s = b / s ∧ 0 < b % s ∧ b % s ≤ e % s := by
  obtain ⟨h1, h2⟩ := ceil_spec (x := b) hs
  have d1 := Int.emod_add_mul_ediv b s
  have d2 := Int.emod_nonneg b (show s ≠ 0 by omega)
  have d3 := Int.emod_lt_of_pos b hs
  have c1 := Int.emod_add_mul_ediv e s
  have c2 := Int.emod_nonneg e (show s ≠ 0 by omega)
  have c3 := Int.emod_lt_of_pos e hs
  generalize (b + s - 1) / s = t at *
  have hb0 : 0 < b % s := by
    rcases Int.lt_or_le 0 (b % s) with q | q
    · exact q
    · have z : b % s = 0 := by omega
      -- t s < b + s and t s > e >= b = s (b/s): between two neighbours
      have l1 : s * (b / s) < t * s := by omega
      have l2 : t * s < s * (b / s) + s := by omega
      rw [Int.mul_comm t s] at l1 l2
      have a1 : b / s < t := Int.lt_of_mul_lt_mul_left l1 (by omega)
      have a2 : s * t < s * (b / s + 1) := by rw [Int.mul_add]; omega
      have a3 : t < b / s + 1 := Int.lt_of_mul_lt_mul_left a2 (by omega)
      omega
  have eq : e / s = b / s := by
    have m1 : b / s ≤ e / s := Int.ediv_le_ediv hs hbe
    rcases Int.lt_or_le (b / s) (e / s) with q | q
    · -- t <= e / s
      have l : s * (b / s + 1) ≤ s * (e / s) := Int.mul_le_mul_of_nonneg_left (by omega) (by omega)
      rw [Int.mul_add] at l
      have l2 : s * t < s * (e / s + 1) := by
        rw [Int.mul_add, Int.mul_comm s t]; omega
      have l3 : t < e / s + 1 := Int.lt_of_mul_lt_mul_left l2 (by omega)
      have l4 : t * s ≤ e / s * s := Int.mul_le_mul_of_nonneg_right (by omega) (by omega)
      rw [Int.mul_comm (e / s) s] at l4
      omega
    · omega
  refine ⟨eq, hb0, ?_⟩
  rw [eq] at c1
  omega
/-- by how far the ring is behind a multiple: what stands in the lesser ring -/
theorem neg_place {p s j : Int} (hs : 0 < s) : j * (-p % s) % s = (-(j * p)) % s := by
  have h := Int.emod_add_mul_ediv (-p) s
  have e : -(j * p) = j * (-p % s) + s * (j * (-p / s)) := by grind
  rw [e, Int.add_mul_emod_self_left]
/-- a mark comes into the stretch in its j-th turn just when j comes into the lesser stretch -/
theorem lead_iff {p s b e j k : Int} (hs : 0 < s) (hb : 0 < b % s) (hbe : b % s ≤ e % s) (hq : e / s = b / s) (h1 : b ≤ k * s - j * p) (h2 : k * s - j * p ≤ e) :
    In s (-p % s) (b % s) (e % s) j := by
  unfold In
  rw [neg_place hs]
  have d1 := Int.emod_add_mul_ediv b s
  have c1 := Int.emod_add_mul_ediv e s
  have c3 := Int.emod_lt_of_pos e hs
  rw [hq] at c1
  have e1 : -(j * p) = (k * s - j * p - s * (b / s)) + s * (b / s - k) := by grind
  rw [e1, Int.add_mul_emod_self_left, Int.emod_eq_of_lt (a := k * s - j * p - s * (b / s)) (by omega) (by omega)]
  omega
theorem first_lead {p s b e m : Int} (hp : 0 < p) (hs : 0 < s) (hb : 0 < b) (he : e < p) (hbe : b ≤ e) (h : e < (b + s - 1) / s * s) (hm : FirstIn s (-p % s) (b % s) (e % s) m) :
    FirstIn p s b e ((b + p * m + s - 1) / s) := by
  obtain ⟨hq, hb0, hbe'⟩ := same_block hs hbe h
  have d1 := Int.emod_add_mul_ediv b s
  have c1 := Int.emod_add_mul_ediv e s
  have c3 := Int.emod_lt_of_pos e hs
  obtain ⟨m0, mi, mn⟩ := hm
  obtain ⟨mi1, mi2⟩ := mi
  rw [neg_place hs] at mi1 mi2
  have pm : 0 ≤ p * m := Int.mul_nonneg (by omega) m0
  -- the mark itself
  have f1 := Int.emod_add_mul_ediv (-(m * p)) s
  generalize hr : (-(m * p)) % s = r at *
  generalize hw : (-(m * p)) / s = w at *
  have cm : m * p = p * m := Int.mul_comm _ _
  have kk : (b / s - w) * s = p * m + r + s * (b / s) := by
    have : (b / s - w) * s = s * (b / s) - s * w := by grind
    omega
  have kv : (b + p * m + s - 1) / s = b / s - w := by
    apply Int.le_antisymm
    · exact ceil_le hs (by omega)
    · obtain ⟨x1, x2⟩ := ceil_spec (x := b + p * m) hs
      rcases Int.lt_or_le ((b + p * m + s - 1) / s) (b / s - w) with q | q
      · have l : ((b + p * m + s - 1) / s + 1) * s ≤ (b / s - w) * s := Int.mul_le_mul_of_nonneg_right (by omega) (by omega)
        rw [Int.add_mul, Int.one_mul] at l
        rw [hq] at c1
        omega
      · exact q
  have k0 : 0 ≤ (b + p * m + s - 1) / s := ceil_nn hs (by omega)
  rw [kv] at k0 ⊢
  have place : (b / s - w) * s % p = r + s * (b / s) := by
    rw [kk]
    have : p * m + r + s * (b / s) = (r + s * (b / s)) + p * m := by omega
    rw [this, Int.add_mul_emod_self_left]
    rw [hq] at c1
    refine Int.emod_eq_of_lt ?_ (by omega)
    have := Int.mul_nonneg (Int.le_of_lt hs) (Int.ediv_nonneg (show 0 ≤ b by omega) (Int.le_of_lt hs))
    omega
  refine ⟨k0, ⟨by rw [place]; omega, by rw [place]; rw [hq] at c1; omega⟩, fun k k1 k2 hin => ?_⟩
  obtain ⟨i1, i2⟩ := hin
  have g := Int.emod_add_mul_ediv (k * s) p
  have jn : 0 ≤ k * s / p := Int.ediv_nonneg (Int.mul_nonneg k1 (by omega)) (by omega)
  generalize hj : k * s / p = j at *
  have cj : j * p = p * j := Int.mul_comm _ _
  have inj := lead_iff (k := k) (j := j) (p := p) hs hb0 hbe' hq (by omega) (by omega)
  rcases Int.lt_trichotomy j m with q | q | q
  · exact mn j jn q inj
  · subst q
    have : (b + p * j + s - 1) / s ≤ k := ceil_le hs (by omega)
    omega
  · -- j <= m as k <= the mark found
    have l : k * s ≤ (b / s - w) * s := Int.mul_le_mul_of_nonneg_right (by omega) (by omega)
    have l2 : p * (m + 1) ≤ p * j := Int.mul_le_mul_of_nonneg_left (by omega) (by omega)
    rw [Int.mul_add] at l2
    rw [hq] at c1
    omega
/-! ### a multiple in the stretch -/
def HasM (g b e : Int) : Prop := ∃ c, b ≤ g * c ∧ g * c ≤ e
theorem hasM_iff {g b e : Int} (hg : 0 < g) : HasM g b e ↔ b ≤ e / g * g := by
  have h := Int.emod_add_mul_ediv e g
  have h1 := Int.emod_nonneg e (show g ≠ 0 by omega)
  have h2 := Int.emod_lt_of_pos e hg
  rw [Int.mul_comm g] at h
  constructor
  · rintro ⟨c, h3, h4⟩
    have : c ≤ e / g := Int.le_ediv_of_mul_le hg (by rw [Int.mul_comm]; exact h4)
    have : c * g ≤ e / g * g := Int.mul_le_mul_of_nonneg_right this (by omega)
    rw [Int.mul_comm c] at this
    omega
  · intro h3
    exact ⟨e / g, by rw [Int.mul_comm]; exact h3, by rw [Int.mul_comm]; omega⟩
theorem G_reflect (p s : Int) : G p (p - s) = G p s := by
  unfold G
  have : Int.gcd p (p - s) = Int.gcd p s := by
    have e : p - s = -s + p * 1 := by omega
    rw [e, Int.gcd_add_mul_left_right, Int.gcd_neg]
  rw [this]
theorem G_lead {p s : Int} (hs : 0 < s) : G s (-p % s) = G p s := by
  have h := G_step (-p) s hs
  rw [h]
  unfold G
  rw [Int.neg_gcd]
theorem hasM_reflect {p s b e : Int} (h : HasM (G p s) b e) : HasM (G p (p - s)) (p - e) (p - b) := by
  rw [G_reflect]
  obtain ⟨c, h1, h2⟩ := h
  obtain ⟨t, ht⟩ := G_dl p s
  refine ⟨t - c, ?_, ?_⟩ <;> (rw [Int.mul_sub, ← ht]; omega)
theorem hasM_lead {p s b e : Int} (hs : 0 < s) (hq : e / s = b / s) (h : HasM (G p s) b e) : HasM (G s (-p % s)) (b % s) (e % s) := by
  rw [G_lead hs]
  obtain ⟨c, h1, h2⟩ := h
  obtain ⟨t, ht⟩ := G_dr p s
  have d1 := Int.emod_add_mul_ediv b s
  have c1 := Int.emod_add_mul_ediv e s
  rw [hq] at c1
  have e1 : G p s * (c - t * (b / s)) = G p s * c - s * (b / s) := by
    rw [Int.mul_sub, ← Int.mul_assoc, ← ht]
  exact ⟨c - t * (b / s), by rw [e1]; omega, by rw [e1]; omega⟩
theorem step_there {p s b e : Int} (hp : 0 < p) (hs : 0 ≤ s) (hb : 0 < b) (he : e < p) (h : HasM (G p s) b e) : 0 < s := by
  rcases Int.lt_or_le 0 s with q | q
  · exact q
  · have z : s = 0 := by omega
    subst z
    rw [G_zero (by omega)] at h
    obtain ⟨c, h1, h2⟩ := h
    rcases Int.lt_or_le c 1 with q | q
    · have : p * c ≤ p * 0 := Int.mul_le_mul_of_nonneg_left (by omega) (by omega)
      omega
    · have : p * 1 ≤ p * c := Int.mul_le_mul_of_nonneg_left q (by omega)
      omega
/-- no mark where no multiple is -/
theorem none_in {p s b e k : Int} (hp : 0 < p) (h : ¬ HasM (G p s) b e) : ¬ In p s b e k := by
  rintro ⟨h1, h2⟩
  obtain ⟨c, hc⟩ := Int.dvd_of_emod_eq_zero (place_mult (p := p) (s := s) (k := k) hp)
  exact h ⟨c, by omega, by omega⟩
/-! ### the rings to which it was led -/
/-- the ring p, s, b, e lies behind the written rows of the first one -/
inductive Led (P A B E : Int) : List (Int × Int × Int) → Int → Int → Int → Int → Prop
  | nil : Led P A B E [] P A B E
  | turn {l p s b e} : Led P A B E l p s b e → 0 < b → e < p → Led P A B E l p (p - s) (p - e) (p - b)
  | snoc {l p s b e} : Led P A B E l p s b e → 0 < p → 0 < s → s < p → 0 < b → e < p → b ≤ e → e < (b + s - 1) / s * s → Led P A B E (l ++ [(p, s, b)]) s (-p % s) (b % s) (e % s)
/-- one row back: from the last ring's first mark to that of the ring ahead of it -/
theorem Led.back {P A B E : Int} {l : List (Int × Int × Int)} {p s b e m : Int} (h : Led P A B E l p s b e) (hp : 0 < p) (hf : FirstIn p s b e m) :
    (l = [] ∧ FirstIn P A B E m) ∨ ∃ l' p' s' b' e', l = l' ++ [(p', s', b')] ∧ Led P A B E l' p' s' b' e' ∧ 0 < p' ∧ 0 < s' ∧ 0 < b' ∧ b' < p' ∧ FirstIn s' (-p' % s') (b' % s') (e' % s') m ∧ FirstIn p' s' b' e' ((b' + p' * m + s' - 1) / s') := by
  induction h with
  | nil => exact .inl ⟨rfl, hf⟩
  | @turn l p s b e h hb he ih => exact ih hp (first_reflect hp hb he hf)
  | @snoc l p s b e h h0 hs hsp hb he hbe hn ih => exact .inr ⟨l, p, s, b, e, rfl, h, h0, hs, hb, by omega, hf, first_lead h0 hs hb he hbe hn hf⟩
/-- no ring is greater than the first one -/
theorem Led.bound {P A B E : Int} {l : List (Int × Int × Int)} {p s b e : Int} (h : Led P A B E l p s b e) : p ≤ P ∧ ∀ x ∈ l, x.1 ≤ P ∧ x.2.1 < x.1 ∧ x.2.2 < x.1 ∧ 0 < x.2.1 ∧ 0 < x.2.2 := by
  induction h with
  | nil => exact ⟨Int.le_refl _, fun x hx => by simp at hx⟩
  | turn h hb he ih => exact ih
  | @snoc l p s b e h h0 hs hsp hb he hbe hn ih =>
    refine ⟨by omega, fun x hx => ?_⟩
    rcases List.mem_append.mp hx with hx | hx
    · exact ih.2 x hx
    · have : x = (p, s, b) := by simpa using hx
      subst this
      exact ⟨ih.1, hsp, by show b < p; omega, hs, hb⟩
end RS
namespace RS
/-! ### the marks next to mark 0 -/
structure Near (p s a d b e : Int) : Prop where
  a1 : 1 ≤ a
  b1 : 1 ≤ b
  d0 : 0 < d
  e0 : 0 < e
  sum : d * b + e * a = p
  pa : a * s % p = d
  pb : b * s % p = p - e
  no : ∀ k, 0 < k → k < a + b → d ≤ k * s % p ∧ k * s % p ≤ p - e
theorem Near.lt {p s a d b e : Int} (h : Near p s a d b e) : d + e ≤ p := by
  have h1 : d * 1 ≤ d * b := Int.mul_le_mul_of_nonneg_left h.b1 (Int.le_of_lt h.d0)
  have h2 : e * 1 ≤ e * a := Int.mul_le_mul_of_nonneg_left h.a1 (Int.le_of_lt h.e0)
  have := h.sum
  omega
theorem near_start {p s : Int} (hs : 0 < s) (hsp : s < p) : Near p s 1 s 1 (p - s) := by
  have e : (1 : Int) * s % p = s := by rw [Int.one_mul]; exact Int.emod_eq_of_lt (by omega) hsp
  refine ⟨by omega, by omega, hs, by omega, by grind, e, by rw [e]; omega, fun k h1 h2 => ?_⟩
  have : k = 1 := by omega
  subst this
  rw [e]
  omega
/-- what stands at a sum of marks -/
theorem place_sum {p s x y u v : Int} (hx : x * s % p = u) (hy : y * s % p = v) : (x + y) * s % p = (u + v) % p := by
  rw [Int.add_mul, Int.add_emod, hx, hy]
theorem place_back {p s k b e : Int} (hp : 0 < p) (hb : b * s % p = p - e) : (k - b) * s % p = (k * s % p + e) % p := by
  have h1 := Int.emod_add_mul_ediv (k * s) p
  have h2 := Int.emod_add_mul_ediv (b * s) p
  rw [hb] at h2
  have e1 : (k - b) * s = (k * s % p + e) + p * (k * s / p - b * s / p - 1) := by
    rw [Int.sub_mul, Int.mul_sub, Int.mul_sub]; omega
  rw [e1, Int.add_mul_emod_self_left]
theorem place_back' {p s k a d : Int} (ha : a * s % p = d) : (k - a) * s % p = (k * s % p - d) % p := by
  rw [Int.sub_mul, Int.sub_emod, ha]
theorem near_on {p s a d b e : Int} (h : Near p s a d b e) (hde : e < d) : Near p s (a + b) (d - e) b e := by
  have hl := h.lt
  obtain ⟨a1, b1, d0, e0, sum, pa, pb, no⟩ := h
  have hp : 0 < p := by omega
  have pab : (a + b) * s % p = d - e := by
    rw [place_sum pa pb]
    have : d + (p - e) = (d - e) + p * 1 := by omega
    rw [this, Int.add_mul_emod_self_left]
    exact Int.emod_eq_of_lt (by omega) (by omega)
  refine ⟨by omega, b1, by omega, e0, by grind, pab, pb, fun k k0 k1 => ?_⟩
  have r1 := Int.emod_nonneg (k * s) (show p ≠ 0 by omega)
  have r2 := Int.emod_lt_of_pos (k * s) hp
  rcases Int.lt_trichotomy k (a + b) with q | q | q
  · have := no k k0 q; omega
  · rw [q, pab]; omega
  · have n := no (k - b) (by omega) (by omega)
    rw [place_back hp pb] at n
    generalize k * s % p = x at *
    rcases Int.lt_or_le (x + e) p with z | z
    · rw [Int.emod_eq_of_lt (by omega) z] at n; omega
    · have : x + e = (x + e - p) + p * 1 := by omega
      rw [this, Int.add_mul_emod_self_left, Int.emod_eq_of_lt (by omega) (by omega)] at n
      omega
theorem near_back {p s a d b e : Int} (h : Near p s a d b e) (hde : d < e) : Near p s a d (b + a) (e - d) := by
  have hl := h.lt
  obtain ⟨a1, b1, d0, e0, sum, pa, pb, no⟩ := h
  have hp : 0 < p := by omega
  have pab : (b + a) * s % p = p - (e - d) := by
    rw [place_sum pb pa]
    have : p - e + d = p - (e - d) := by omega
    rw [this]
    exact Int.emod_eq_of_lt (by omega) (by omega)
  refine ⟨a1, by omega, d0, by omega, by grind, pa, pab, fun k k0 k1 => ?_⟩
  have r1 := Int.emod_nonneg (k * s) (show p ≠ 0 by omega)
  have r2 := Int.emod_lt_of_pos (k * s) hp
  rcases Int.lt_trichotomy k (a + b) with q | q | q
  · have := no k k0 q; omega
  · have : k = b + a := by omega
    rw [this, pab]; omega
  · have n := no (k - a) (by omega) (by omega)
    rw [place_back' pa] at n
    generalize k * s % p = x at *
    rcases Int.lt_or_le x d with z | z
    · have : x - d = (x - d + p) + p * (-1) := by omega
      rw [this, Int.add_mul_emod_self_left, Int.emod_eq_of_lt (by omega) (by omega)] at n
      omega
    · rw [Int.emod_eq_of_lt (by omega) (by omega)] at n; omega
theorem near_ons {p s a d b e : Int} (h : Near p s a d b e) : ∀ t : Nat, (t : Int) * e < d → Near p s (a + t * b) (d - t * e) b e
  | 0, _ => by simpa using h
  | t + 1, q => by
    have q' : (t : Int) * e + e < d := by have : ((t + 1 : Nat) : Int) * e = t * e + e := by grind
                                          omega
    have := near_on (near_ons h t (by have := h.e0; omega)) (by omega)
    have e1 : a + (t : Int) * b + b = a + ((t + 1 : Nat) : Int) * b := by grind
    have e2 : d - (t : Int) * e - e = d - ((t + 1 : Nat) : Int) * e := by grind
    rw [e1, e2] at this
    exact this
theorem near_backs {p s a d b e : Int} (h : Near p s a d b e) : ∀ t : Nat, (t : Int) * d < e → Near p s a d (b + t * a) (e - t * d)
  | 0, _ => by simpa using h
  | t + 1, q => by
    have q' : (t : Int) * d + d < e := by have : ((t + 1 : Nat) : Int) * d = t * d + d := by grind
                                          omega
    have := near_back (near_backs h t (by have := h.d0; omega)) (by omega)
    have e1 : b + (t : Int) * a + a = b + ((t + 1 : Nat) : Int) * a := by grind
    have e2 : e - (t : Int) * d - d = e - ((t + 1 : Nat) : Int) * d := by grind
    rw [e1, e2] at this
    exact this
/-- the two are alike only when all marks are there -/
theorem near_ne {p s a d b e : Int} (h : Near p s a d b e) (ht : a + b < top p s) : d ≠ e := by
  intro q
  have hl := h.lt
  obtain ⟨a1, b1, d0, e0, sum, pa, pb, no⟩ := h
  have hp : 0 < p := by omega
  have z : (a + b) * s % p = 0 := by
    rw [place_sum pa pb, q]
    have : e + (p - e) = 0 + p * 1 := by omega
    rw [this, Int.add_mul_emod_self_left]
    rfl
  have z2 : (a + b) * s % p = 0 * s % p := by rw [z]; simp
  have := marks_apart hp (by omega) ht (by omega) (top_pos (s := s) hp) z2
  omega
/-- two turns of the search: how often, bounded -/
theorem times_spec {x y : Int} (hy : 0 < y) : (x - 1) / y * y < x ∧ (y < x → 1 ≤ (x - 1) / y) := by
  have h := Int.emod_add_mul_ediv (x - 1) y
  have h1 := Int.emod_nonneg (x - 1) (show y ≠ 0 by omega)
  have h2 := Int.emod_lt_of_pos (x - 1) hy
  rw [Int.mul_comm y] at h
  exact ⟨by omega, fun q => Int.le_ediv_of_mul_le hy (by omega)⟩
theorem div_spec {x y : Int} (hy : 0 < y) (hx : y ≤ x) : x / y * y ≤ x ∧ 1 ≤ x / y := by
  have h := Int.emod_add_mul_ediv x y
  have h1 := Int.emod_nonneg x (show y ≠ 0 by omega)
  rw [Int.mul_comm y] at h
  exact ⟨by omega, Int.le_ediv_of_mul_le hy (by omega)⟩
/-- the search's end -/
structure Nearest (p s n a d b e : Int) : Prop where
  near : Near p s a d b e
  an : a < n
  bn : b < n
  all : n ≤ a + b
theorem Nearest.no {p s n a d b e : Int} (h : Nearest p s n a d b e) (k : Int) (k0 : 0 < k) (kn : k < n) : d ≤ k * s % p ∧ k * s % p ≤ p - e := h.near.no k k0 (by have := h.all; omega)
theorem Nearest.uniq {p s n a d b e a' d' b' e' : Int} (hn : n ≤ top p s) (h : Nearest p s n a d b e) (h' : Nearest p s n a' d' b' e') : a = a' ∧ d = d' ∧ b = b' ∧ e = e' := by
  have hl := h.near.lt
  have hp : 0 < p := by have := h.near.d0; have := h.near.e0; omega
  have x1 := h.no a' (by have := h'.near.a1; omega) h'.an
  have x2 := h'.no a (by have := h.near.a1; omega) h.an
  have x3 := h.no b' (by have := h'.near.b1; omega) h'.bn
  have x4 := h'.no b (by have := h.near.b1; omega) h.bn
  rw [h.near.pa] at x2
  rw [h'.near.pa] at x1
  rw [h.near.pb] at x4
  rw [h'.near.pb] at x3
  have hd : d = d' := by omega
  have he : e = e' := by omega
  have ha := marks_apart (s := s) hp (show 0 ≤ a by have := h.near.a1; omega) (by have := h.an; omega) (show 0 ≤ a' by have := h'.near.a1; omega) (by have := h'.an; omega) (by rw [h.near.pa, h'.near.pa, hd])
  have hb := marks_apart (s := s) hp (show 0 ≤ b by have := h.near.b1; omega) (by have := h.bn; omega) (show 0 ≤ b' by have := h'.near.b1; omega) (by have := h'.bn; omega) (by rw [h.near.pb, h'.near.pb, he])
  exact ⟨ha, hd, hb, he⟩
/-- two marks or more: the step is no 0 -/
theorem step_pos {p s n : Int} (hp : 0 < p) (hs : 0 ≤ s) (hn : n ≤ top p s) (h2 : 2 ≤ n) : 0 < s := by
  rcases Int.lt_or_le 0 s with q | q
  · exact q
  · have : s = 0 := by omega
    subst this
    unfold top at hn
    rw [G_zero (by omega), Int.ediv_self (by omega)] at hn
    omega
/-! ### the gaps as they are told -/
def keep (l : List (Int × Int)) : List (Int × Int) := l.filter fun x => decide (0 < x.2)
/-- sizes rising, how many there are of each -/
def gapsL (n a d b e : Int) : List (Int × Int) :=
  if d = e then keep [(d, n - a + (n - b)), (d + e, a + b - n)]
  else if d < e then keep [(d, n - a), (e, n - b), (d + e, a + b - n)]
  else keep [(e, n - b), (d, n - a), (d + e, a + b - n)]
end RS
namespace RS
/-! ### the one number with a property -/
theorem eps_eq {P : Int → Prop} {x : Int} (hx : P x) (hu : ∀ y, P y → y = x) : Classical.epsilon P = x := hu _ (Classical.epsilon_spec ⟨x, hx⟩)
noncomputable def theInv (a m : Int) : Int := Classical.epsilon fun r : Int => 0 ≤ r ∧ r < m ∧ r * a % m = 1 % m
theorem theInv_eq {a m r : Int} (hm : 0 < m) (hg : Int.gcd m a = 1) (h0 : 0 ≤ r) (h1 : r < m) (h2 : r * a % m = 1 % m) : theInv a m = r := by
  have ht : top m a = m := by unfold top G; rw [hg]; simp
  refine eps_eq ⟨h0, h1, h2⟩ fun y ⟨y0, y1, y2⟩ => ?_
  exact marks_apart (s := a) hm y0 (by omega) h0 (by omega) (by rw [y2, h2])
noncomputable def thePlace (p s m t : Int) : Int := Classical.epsilon fun x : Int => 0 ≤ x ∧ x < p ∧ t < cnt p s m.toNat x ∧ cnt p s m.toNat (x - 1) ≤ t
theorem thePlace_eq {p s m t x : Int} (h0 : 0 ≤ x) (h1 : x < p) (h2 : t < cnt p s m.toNat x) (h3 : cnt p s m.toNat (x - 1) ≤ t) : thePlace p s m t = x := by
  refine eps_eq ⟨h0, h1, h2, h3⟩ fun y ⟨y0, y1, y2, y3⟩ => ?_
  rcases Int.lt_trichotomy x y with q | q | q
  · have := cnt_mono p s m.toNat (show x ≤ y - 1 by omega); omega
  · exact q.symm
  · have := cnt_mono p s m.toNat (show y ≤ x - 1 by omega); omega
noncomputable def theAt (p s x : Int) : Int := Classical.epsilon fun k : Int => 0 ≤ k ∧ k < top p s ∧ k * s % p = x
theorem theAt_eq {p s x k : Int} (hp : 0 < p) (h0 : 0 ≤ k) (h1 : k < top p s) (h2 : k * s % p = x) : theAt p s x = k :=
  eps_eq ⟨h0, h1, h2⟩ fun y ⟨y0, y1, y2⟩ => marks_apart hp y0 y1 h0 h1 (by rw [y2, h2])
noncomputable def theMark (p s m t : Int) : Int := Classical.epsilon fun k : Int => 0 ≤ k ∧ k < m ∧ cnt p s m.toNat (k * s % p) = t + 1
theorem theMark_eq {p s m t k : Int} (hp : 0 < p) (hm : m ≤ top p s) (h0 : 0 ≤ k) (h1 : k < m) (h2 : cnt p s m.toNat (k * s % p) = t + 1) : theMark p s m t = k := by
  refine eps_eq ⟨h0, h1, h2⟩ fun y ⟨y0, y1, y2⟩ => ?_
  have e1 : ((y.toNat : Nat) : Int) = y := by omega
  have e2 : ((k.toNat : Nat) : Int) = k := by omega
  have := rank_apart (p := p) (s := s) (n := m.toNat) (i := y.toNat) (j := k.toNat) hp (by omega) (by omega) (by omega) (by rw [e1, e2, y2, h2])
  omega
theorem step_ex (f : Int → Int) (t : Int) : ∀ (n : Nat) (lo : Int), f lo ≤ t → t < f (lo + n) → ∃ x, lo < x ∧ x ≤ lo + n ∧ f (x - 1) ≤ t ∧ t < f x
  | 0, lo, h1, h2 => by
    have : lo + ((0 : Nat) : Int) = lo := by omega
    rw [this] at h2
    omega
  | n + 1, lo, h1, h2 => by
    by_cases q : t < f (lo + n)
    · obtain ⟨x, x1, x2, x3, x4⟩ := step_ex f t n lo h1 q
      exact ⟨x, x1, by omega, x3, x4⟩
    · refine ⟨lo + ((n + 1 : Nat) : Int), by omega, by omega, ?_, h2⟩
      have : lo + ((n + 1 : Nat) : Int) - 1 = lo + n := by omega
      rw [this]
      omega
theorem place_ex {p s m t : Int} (hp : 0 < p) (t0 : 0 ≤ t) (tm : t < m) : ∃ x, 0 ≤ x ∧ x < p ∧ t < cnt p s m.toNat x ∧ cnt p s m.toNat (x - 1) ≤ t := by
  have e : (-1 : Int) + (p.toNat : Nat) = p - 1 := by omega
  obtain ⟨x, x1, x2, x3, x4⟩ := step_ex (fun x => cnt p s m.toNat x) t p.toNat (-1) (by show cnt p s m.toNat (-1) ≤ t; rw [cnt_neg p s m.toNat (-1) hp (by omega)]; exact t0) (by
    show t < cnt p s m.toNat (-1 + (p.toNat : Nat))
    rw [e, cnt_all p s m.toNat (p - 1) hp (by omega)]
    omega)
  exact ⟨x, by omega, by omega, x4, x3⟩
theorem theMark_spec {p s m t : Int} (hp : 0 < p) (hm : m ≤ top p s) (t0 : 0 ≤ t) (tm : t < m) : 0 ≤ theMark p s m t ∧ theMark p s m t < m ∧ cnt p s m.toNat (theMark p s m t * s % p) = t + 1 := by
  obtain ⟨x, x0, x1, x2, x3⟩ := place_ex (s := s) hp t0 tm
  obtain ⟨k, k1, k2, k3⟩ := found_place (s := s) hp (show ((m.toNat : Nat) : Int) ≤ top p s by omega) x2 x3
  rw [← k2] at k3
  have := theMark_eq hp hm (k := (k : Int)) (by omega) (by omega) k3
  rw [this]
  exact ⟨by omega, by omega, k3⟩
/-- the way there -/
theorem theMark_at {p s m t : Int} (hp : 0 < p) (hm : m ≤ top p s) (t0 : 0 ≤ t) (tm : t < m) : theAt p s (thePlace p s m t) = theMark p s m t := by
  obtain ⟨h0, h1, h2⟩ := theMark_spec hp hm t0 tm
  have e1 : (((theMark p s m t).toNat : Nat) : Int) = theMark p s m t := by omega
  have b0 := Int.emod_nonneg (theMark p s m t * s) (show p ≠ 0 by omega)
  have b1 := Int.emod_lt_of_pos (theMark p s m t * s) hp
  have h3 := cnt_at1 (p := p) (s := s) (x := theMark p s m t * s % p) (n := m.toNat) (k := (theMark p s m t).toNat) hp (by omega) (by omega) (by rw [e1])
  rw [thePlace_eq (x := theMark p s m t * s % p) b0 b1 (by omega) (by omega)]
  exact theAt_eq hp h0 (by omega) rfl
/-- the place found is a mark's -/
theorem thePlace_mult {p s m t : Int} (hp : 0 < p) (hm : m ≤ top p s) (t0 : 0 ≤ t) (tm : t < m) : 0 ≤ thePlace p s m t ∧ thePlace p s m t < p ∧ thePlace p s m t % G p s = 0 := by
  obtain ⟨x, x0, x1, x2, x3⟩ := place_ex (s := s) hp t0 tm
  obtain ⟨k, k1, k2, k3⟩ := found_place (s := s) hp (show ((m.toNat : Nat) : Int) ≤ top p s by omega) x2 x3
  rw [thePlace_eq x0 x1 x2 x3]
  refine ⟨x0, x1, ?_⟩
  rw [← k2]
  exact place_mult hp
end RS
namespace RS
/-! ### the row 1, 1, 2, 3, 5 -/
def row : Nat → Int × Int
  | 0 => (1, 1)
  | n + 1 => ((row n).2, (row n).1 + (row n).2)
theorem row_pos : ∀ n, 1 ≤ (row n).1 ∧ (row n).1 ≤ (row n).2
  | 0 => by simp [row]
  | n + 1 => by
    have := row_pos n
    show 1 ≤ (row n).2 ∧ (row n).2 ≤ (row n).1 + (row n).2
    omega
theorem row_lt {n : Nat} (h : 1 ≤ n) : (row n).1 < (row n).2 := by
  match n, h with
  | n + 1, _ =>
    have := row_pos n
    show (row n).2 < (row n).1 + (row n).2
    omega
theorem row_ge : ∀ n : Nat, (n : Int) ≤ (row n).2
  | 0 => by simp [row]
  | n + 1 => by
    have := row_pos n
    have := row_ge n
    show ((n + 1 : Nat) : Int) ≤ (row n).1 + (row n).2
    omega
theorem row_le : ∀ n : Nat, (row n).2 ≤ ((2 ^ n : Nat) : Int)
  | 0 => by simp [row]
  | n + 1 => by
    have h1 := row_pos n
    have h2 := row_le n
    show (row n).1 + (row n).2 ≤ _
    rw [Nat.pow_succ]
    omega
theorem row_gcd : ∀ n : Nat, Int.gcd (row n).2 (row n).1 = 1
  | 0 => by simp [row]
  | n + 1 => by
    show Int.gcd ((row n).1 + (row n).2) (row n).2 = 1
    have h := row_gcd n
    rw [Int.gcd_comm, Int.gcd_add_self_right]
    exact h
theorem G_row (n : Nat) : G (row n).2 (row n).1 = 1 := by unfold G; rw [row_gcd]; rfl
theorem G_mul7 {p s : Int} (h : G p s = 1) : G (7 * p) (7 * s) = 7 := by
  unfold G at *
  rw [Int.gcd_mul_left]
  have : Int.gcd p s = 1 := by omega
  rw [this]
  rfl
/-! ### all marks laid: every place has one -/
theorem cnt_slope {p s x : Int} {n : Nat} (hp : 0 < p) (hn : (n : Int) ≤ top p s) : ∀ d : Nat, cnt p s n (x + d) ≤ cnt p s n x + d
  | 0 => by simp
  | d + 1 => by
    have ih := cnt_slope (x := x) hp hn d
    have h1 := cnt_diff p s n (x + ((d + 1 : Nat) : Int))
    have h2 := one_apart (x := x + ((d + 1 : Nat) : Int)) hp hn
    have e : x + ((d + 1 : Nat) : Int) - 1 = x + d := by omega
    rw [e] at h1
    omega
theorem cnt_full {p s x : Int} (hp : 0 < p) (hg : G p s = 1) (h0 : 0 ≤ x) (h1 : x < p) : cnt p s p.toNat x = x + 1 := by
  have ht : top p s = p := by unfold top; rw [hg]; omega
  have hn : ((p.toNat : Nat) : Int) ≤ top p s := by omega
  have a := cnt_slope (x := -1) hp hn (x + 1).toNat
  have b := cnt_slope (x := x) hp hn (p - 1 - x).toNat
  rw [cnt_neg p s p.toNat (-1) hp (by omega)] at a
  rw [cnt_all p s p.toNat (x + (p - 1 - x).toNat) hp (by omega)] at b
  have e : (-1 : Int) + ((x + 1).toNat : Nat) = x := by omega
  rw [e] at a
  omega
/-! ### a few marks in order -/
def spots (p s : Int) (m : Nat) : List Int := (List.range m).map fun i : Nat => (i : Int) * s % p
theorem spots_nodup {p s : Int} {m : Nat} (hp : 0 < p) (hm : (m : Int) ≤ top p s) : (spots p s m).Nodup := by
  unfold spots
  refine List.pairwise_map.mpr ?_
  refine List.Pairwise.imp_of_mem ?_ (List.nodup_range (n := m))
  intro i j hi hj hne q
  have hi := List.mem_range.mp hi
  have hj := List.mem_range.mp hj
  have := marks_apart (s := s) hp (i := i) (j := j) (by omega) (by omega) (by omega) (by omega) q
  omega
theorem filter_cnt {p s x : Int} (m : Nat) : (((spots p s m).filter fun y => decide (y ≤ x)).length : Int) = cnt p s m x := by
  unfold spots
  rw [List.filter_map, List.length_map]
  induction m with
  | zero => rfl
  | succ m ih =>
    rw [List.range_succ, List.filter_append, List.length_append]
    show ((_ + _ : Nat) : Int) = cnt p s m x + hit p s x m
    rw [← ih]
    unfold hit
    by_cases h : (m : Int) * s % p ≤ x
    · rw [if_pos h, List.filter_cons, if_pos (by simpa using h)]; simp
    · rw [if_neg h, List.filter_cons, if_neg (by simpa using h)]; simp
theorem filter_cnt2 {p s b e : Int} (m : Nat) (hbe : b ≤ e + 1) : (((spots p s m).filter fun y => decide (b ≤ y) && decide (y ≤ e)).length : Int) = cnt p s m e - cnt p s m (b - 1) := by
  unfold spots
  rw [List.filter_map, List.length_map]
  induction m with
  | zero => rfl
  | succ m ih =>
    rw [List.range_succ, List.filter_append, List.length_append]
    show ((_ + _ : Nat) : Int) = (cnt p s m e + hit p s e m) - (cnt p s m (b - 1) + hit p s (b - 1) m)
    have e1 : ∀ a b c d : Int, (a + b) - (c + d) = (a - c) + (b - d) := fun a b c d => by omega
    rw [e1, ← ih]
    unfold hit
    by_cases h : b ≤ (m : Int) * s % p
    · by_cases h2 : (m : Int) * s % p ≤ e
      · rw [if_pos h2, if_neg (by omega), List.filter_cons, if_pos (by simp; exact ⟨h, h2⟩)]; simp
      · rw [if_neg h2, if_neg (by omega), List.filter_cons, if_neg (by simp; intro _; omega)]; simp
    · by_cases h2 : (m : Int) * s % p ≤ e
      · rw [if_pos h2, if_pos (by omega), List.filter_cons, if_neg (by simp; intro z; omega)]; simp
      · rw [if_neg h2, if_neg (by omega), List.filter_cons, if_neg (by simp; intro z; omega)]; simp
/-- in a rising list the index is the count ahead -/
theorem index_cnt : ∀ {l : List Int} {j : Nat} {x : Int}, l.Pairwise (· < ·) → l[j]? = some x → (l.filter fun y => decide (y ≤ x)).length = j + 1
  | [], j, x, _, h => by simp at h
  | a :: t, 0, x, hp, h => by
    have hx : a = x := by simpa using h
    subst hx
    have hp' := List.pairwise_cons.mp hp
    rw [List.filter_cons, if_pos (by simp)]
    have : t.filter (fun y => decide (y ≤ a)) = [] := List.filter_eq_nil_iff.mpr fun y hy => by have := hp'.1 y hy; simp; omega
    rw [this]
    rfl
  | a :: t, j + 1, x, hp, h => by
    have hp' := List.pairwise_cons.mp hp
    have h' : t[j]? = some x := by simpa using h
    have := hp'.1 x (List.mem_of_getElem? h')
    rw [List.filter_cons, if_pos (by simp; omega), List.length_cons, index_cnt hp'.2 h']
theorem pw_lt {l : List Int} (h : l.Pairwise (· ≤ ·)) (hn : l.Nodup) : l.Pairwise (· < ·) := by
  have := List.Pairwise.and h hn
  exact this.imp fun {a b} h => by have := h.1; have := h.2; omega
/-- by the index -/
theorem filter_ix (l : List Int) (q : Int → Bool) : ((List.range l.length).filter fun i => q (l.getD i 0)).length = (l.filter q).length := by
  have h : l = (List.range l.length).map fun i => l.getD i 0 := by
    apply List.ext_getElem?
    intro i
    rw [List.getElem?_map]
    by_cases hi : i < l.length
    · rw [List.getElem?_eq_getElem hi, List.getElem?_range hi]
      simp [List.getD, hi]
    · rw [List.getElem?_eq_none (by omega), List.getElem?_eq_none (by simp; omega)]
      rfl
  conv => rhs; rw [h]
  rw [List.filter_map, List.length_map]
  rfl
end RS
namespace RG
open PySem PySem.Spec PyProof.Rows L2 Evl
/-! ### great numbers -/
/-- below this many bits all products are made -/
def Big (i : Int) : Prop := i.natAbs < 2 ^ 60000000
def CMulB (i j : Int) : Prop := Big i ∧ Big j
theorem log2_big {i : Int} (h : Big i) : i.natAbs.log2 < 60000000 := PySem.Flt.log2_lt_of (by decide) h
theorem CMulB.ok {i j : Int} (h : CMulB i j) : IntMulOk i j := by
  have b : ∀ x : Int, Builtin.Int.intBits x ≤ x.natAbs.log2 + 1 := fun x => by
    unfold Builtin.Int.intBits
    split <;> omega
  have h1 := b i
  have h2 := b j
  have h3 := log2_big h.1
  have h4 := log2_big h.2
  have e : bitsLine = 134217728 := by decide
  unfold IntMulOk
  intro z
  rw [Bool.and_eq_true] at z
  have z2 := z.2
  unfold Builtin.Int.intTooBig at z2
  have z3 := of_decide_eq_true z2
  rw [e] at z3
  omega
theorem op_mulB {X : Cx} : OpR X (binaryOp .Mult) (rI CMulB fun i j => .int (i * j)) := opI fun _ _ _ _ _ _ _ hc q => mul_int q hc.ok
/-! ### statements over a base heap -/
def Go (t : TS) (D : Ends) (σ : L2.St) (H : Hp) : Prop := ∀ H', Ex H H' → t D σ H'
section
variable {K : PySem.W.Frag} {σ : L2.St} {H : Hp} {ta tb te tx : TE} {t u : TT} {x y z v : V} {D : Ends} {tu tw tz : TS}
theorem EvU.mono {H' : Hp} {xs : List V} (e : Ex H H') (h : EvU te σ H xs) : EvU te σ H' xs := fun H1 a Q q => h H1 (e.trans a) Q q
theorem Go.at (h : Go tu D σ H) : tu D σ H := h H (Ex.refl H)
theorem Go.mono {H' : Hp} (e : Ex H H') (h : Go tu D σ H) : Go tu D σ H' := fun H1 e1 => h H1 (e.trans e1)
theorem g_next (h : ∀ H', Ex H H' → D.nx σ H') : Go tNext D σ H := h
theorem g_cont (h : ∀ H', Ex H H' → D.ct σ H') : Go tCont D σ H := h
theorem g_brk (h : ∀ H', Ex H H' → D.bk σ H') : Go tBreak D σ H := h
theorem g_one (h : Go (tSeq tu tNext) D σ H) : Go tu D σ H := h
theorem g_seq (h : Go tu { D with nx := tw D } σ H) : Go (tSeq tu tw) D σ H := h
theorem g_asg {i : Nat} (h : Ev te σ H v) (k : Go tz D (σ.set i (some v)) H) : Go (tSeq (tAsg te (gName i)) tz) D σ H := fun H' e =>
  q_asg (h.mono e) fun H1 e1 => k H1 (e.trans e1)
theorem g_asgL {i : Nat} {xs : List V} (h : EvL te σ H xs) (k : ∀ p H1, H p = none → Ex H H1 → H1 p = some (.lst xs) → Go tz D (σ.set i (some (.ref p))) H1) : Go (tSeq (tAsg te (gName i)) tz) D σ H := fun H' e =>
  q_asgL (h.mono e) fun p H1 np e1 hp => (k p H1 (fresh_back e np) (e.trans e1) hp).at
theorem g_asgU {i : Nat} {xs : List V} (h : EvU te σ H xs) (k : ∀ p H1, H p = none → Ex H H1 → H1 p = some (.tup xs) → Go tz D (σ.set i (some (.ref p))) H1) : Go (tSeq (tAsg te (gName i)) tz) D σ H := fun H' e =>
  q_asgU (EvU.mono e h) fun p H1 np e1 hp => (k p H1 (fresh_back e np) (e.trans e1) hp).at
/-- a, b = x, y -/
theorem g_par {i j : Nat} {ta : TA} (h : EvA ta σ H [v, x]) (k : Go tz D ((σ.set i (some v)).set j (some x)) H) : Go (tSeq (tPar i j ta) tz) D σ H := fun H' e =>
  h H' e _ fun H1 e1 => ⟨v, x, rfl, k H1 (e.trans e1)⟩
theorem g_aug {i : Nat} {f : Int → Int → Int} {a b : Int} (hx : σ[i]? = some (some (.int a))) (h : Ev te σ H (.int b)) (k : Go tz D (σ.set i (some (.int (f a b)))) H) : Go (tSeq (tAug i te (ipI f)) tz) D σ H := fun H' e =>
  q_aug hx (h.mono e) fun H1 e1 => k H1 (e.trans e1)
theorem g_drop (h : Ev te σ H v) (k : Go tz D σ H) : Go (tSeq (tDrop te) tz) D σ H := fun H' e => q_drop (h.mono e) fun H1 e1 => k H1 (e.trans e1)
theorem g_ret (h : Ev te σ H v) (k : ∀ H1, Ex H H1 → D.rt v H1) : Go (tSeq (tRet te) tz) D σ H := fun H' e => s_ret (D := { D with nx := tz D }) (h.mono e) fun H1 e1 => k H1 (e.trans e1)
theorem g_retL {xs : List V} (h : EvL te σ H xs) (k : ∀ p H1, H p = none → Ex H H1 → H1 p = some (.lst xs) → D.rt (.ref p) H1) : Go (tSeq (tRet te) tz) D σ H := fun H' e =>
  s_retL (D := { D with nx := tz D }) (h.mono e) fun p H1 np e1 hp => k p H1 (fresh_back e np) (e.trans e1) hp
theorem g_retU {xs : List V} (h : EvU te σ H xs) (k : ∀ p H1, H p = none → Ex H H1 → H1 p = some (.tup xs) → D.rt (.ref p) H1) : Go (tSeq (tRet te) tz) D σ H := fun H' e =>
  s_retU (D := { D with nx := tz D }) (EvU.mono e h) fun p H1 np e1 hp => k p H1 (fresh_back e np) (e.trans e1) hp
theorem g_if {b : Bool} (h : EvT t σ H b) (h1 : b = true → Go tu { D with nx := tz D } σ H) (h2 : b = false → Go tw { D with nx := tz D } σ H) : Go (tSeq (tIfS t tu tw) tz) D σ H := fun H' e =>
  q_if (h.mono e) (fun hb H1 e1 => h1 hb H1 (e.trans e1)) (fun hb H1 e1 => h2 hb H1 (e.trans e1))
/-- an if without else -/
theorem g_when {b : Bool} (h : EvT t σ H b) (h1 : b = true → Go tu { D with nx := tz D } σ H) (h2 : b = false → Go tz D σ H) : Go (tSeq (tIfS t tu tNext) tz) D σ H := g_if h h1 h2
/-- what follows is shown once -/
theorem g_cut (M : L2.St → Hp → Prop) (h : Go tu { D with nx := M } σ H) (k : ∀ σ' H', M σ' H' → tz D σ' H') : Go (tCut tu tz) D σ H := fun H' e => ⟨M, h H' e, k⟩
theorem g_while (W : L2.St → Prop) (m : L2.St → Nat) (h0 : W σ)
    (hs : ∀ σ', W σ' → ∃ b, EvT t σ' H b ∧ (b = true → Go tu { D with nx := fun σ2 H2 => Ex H H2 ∧ W σ2 ∧ m σ2 < m σ', ct := fun σ2 H2 => Ex H H2 ∧ W σ2 ∧ m σ2 < m σ', bk := tz D } σ' H) ∧ (b = false → Go tz D σ' H)) : Go (tSeq (tWhile t tu) tz) D σ H := fun H' e =>
  q_while (fun n σ' H2 => Ex H H2 ∧ W σ' ∧ n = m σ') (m σ) ⟨e, h0, rfl⟩ fun n σ' H2 ⟨e2, w, hn⟩ => by
    subst hn
    obtain ⟨b, hb, h1, h2⟩ := hs σ' w
    refine ⟨b, hb.mono e2, fun eb H3 e3 => ⟨_, fun σ2 H2 ⟨x1, x2, x3⟩ => ⟨_, x3, x1, x2, rfl⟩, h1 eb H3 (e2.trans e3)⟩, fun eb H3 e3 => h2 eb H3 (e2.trans e3)⟩
/-- .. where the heap changes too -/
theorem g_whileH (W : L2.St → Hp → Prop) (m : L2.St → Nat) (h0 : ∀ H1, Ex H H1 → W σ H1)
    (hs : ∀ σ' H', W σ' H' → ∃ b, EvT t σ' H' b ∧ (b = true → Go tu { D with nx := fun σ2 H2 => W σ2 H2 ∧ m σ2 < m σ', ct := fun σ2 H2 => W σ2 H2 ∧ m σ2 < m σ', bk := tz D } σ' H') ∧ (b = false → Go tz D σ' H')) : Go (tSeq (tWhile t tu) tz) D σ H := fun H' e =>
  q_while (fun n σ' H2 => W σ' H2 ∧ n = m σ') (m σ) ⟨h0 H' e, rfl⟩ fun n σ' H2 ⟨w, hn⟩ => by
    subst hn
    obtain ⟨b, hb, h1, h2⟩ := hs σ' H2 w
    exact ⟨b, hb, fun eb H3 e3 => ⟨_, fun σ2 H2 ⟨x2, x3⟩ => ⟨_, x3, x2, rfl⟩, h1 eb H3 e3⟩, fun eb H3 e3 => h2 eb H3 e3⟩
/-! ### expressions -/
theorem ev_chain {r r' : R2} {b c : Bool} {tc : TE} {w : V} (ha : Ev ta σ H x) (hb : Ev tb σ H y) (hr : RV r x y H (.bl b)) (hc : b = true → Ev tc σ H w) (hr' : b = true → RV r' y w H (.bl c)) : Ev (tChain r r' ta tb tc) σ H (.bl (b && c)) := fun H1 e Q q =>
  ha H1 e _ fun H2 e2 => hb H2 (e.trans e2) _ fun H3 e3 => hr H3 ((e.trans e2).trans e3) _ fun H4 e4 => ⟨b, rfl, by
    cases b with
    | true => exact hc rfl H4 (((e.trans e2).trans e3).trans e4) _ fun H5 e5 => hr' rfl H5 ((((e.trans e2).trans e3).trans e4).trans e5) Q fun H6 e6 => q H6 ((((e2.trans e3).trans e4).trans e5).trans e6)
    | false => exact q H4 ((e2.trans e3).trans e4)⟩
theorem ev_chainI {p q : Int → Int → Bool} {i j k : Int} {tc : TE} (ha : Ev ta σ H (.int i)) (hb : Ev tb σ H (.int j)) (hc : Ev tc σ H (.int k)) : Ev (tChain (rI0 fun i j => .bl (p i j)) (rI0 fun i j => .bl (q i j)) ta tb tc) σ H (.bl (p i j && q j k)) :=
  ev_chain ha hb rv_I0 (fun _ => hc) (fun _ => rv_I0)
/-- isinstance of a class -/
theorem ev_isi {c : V} {ty cl : Value} {b : Bool} (ha : Ev ta σ H x) (hb : Ev tb σ H c) (kc : ClsV c cl) (ht : ∀ H1, Ex H H1 → TyX K H1 x ty) (hk : PySem.W.kitOne K ty cl = some b) : Ev (tCB (rIsi K) (tCons ta (tCons tb tNil))) σ H (.bl b) := fun H1 e Q q =>
  ha H1 e _ fun H2 e2 => hb H2 (e.trans e2) _ fun H3 e3 => ⟨x, c, ty, cl, b, rfl, kc, ht H3 ((e.trans e2).trans e3), hk, q H3 (e2.trans e3)⟩
theorem ev_call1 {sp : Sp} {E : XK} {ta : TA} {vs : List V} (h : EvA ta σ H vs) (hs : SpV sp vs H z) : Ev (tCall sp [] E ta) σ H z := ev_call (dvs := []) h (by rw [List.append_nil]; exact hs)
end
end RG
namespace RG
open PySem PySem.Spec PyProof.Rows L2 Evl
/-! ### sizes by level: n times eight thousand bits -/
def Lv (n : Nat) (i : Int) : Prop := i.natAbs < 2 ^ (8000 * n)
theorem lv_mono {a b : Nat} {i : Int} (h : Lv a i) (hb : a ≤ b) : Lv b i := Nat.lt_of_lt_of_le h (Nat.pow_le_pow_right (by omega) (by omega))
theorem lv_mul {a b : Nat} {i j : Int} (h : Lv a i) (h' : Lv b j) : Lv (a + b) (i * j) := by
  unfold Lv at *
  rw [Int.natAbs_mul, Nat.mul_add, Nat.pow_add]
  exact Nat.mul_lt_mul'' h h'
theorem lv_add {a b : Nat} {i j : Int} (h : Lv a i) (h' : Lv b j) : Lv (a + b + 1) (i + j) := by
  unfold Lv at *
  have h1 : i.natAbs < 2 ^ (8000 * (a + b)) := Nat.lt_of_lt_of_le h (Nat.pow_le_pow_right (by omega) (by omega))
  have h2 : j.natAbs < 2 ^ (8000 * (a + b)) := Nat.lt_of_lt_of_le h' (Nat.pow_le_pow_right (by omega) (by omega))
  have h3 : (i + j).natAbs ≤ i.natAbs + j.natAbs := Int.natAbs_add_le i j
  have h4 : 2 ^ (8000 * (a + b + 1)) = 2 ^ (8000 * (a + b)) * 2 ^ 8000 := by rw [← Nat.pow_add]; rfl
  have h5 : 2 ^ (8000 * (a + b)) * 2 ≤ 2 ^ (8000 * (a + b)) * 2 ^ 8000 := Nat.mul_le_mul_left _ (Nat.pow_le_pow_right (n := 2) (by omega) (show 1 ≤ 8000 by omega))
  rw [h4]
  generalize 2 ^ (8000 * (a + b)) = x at *
  generalize x * 2 ^ 8000 = y at *
  omega
theorem lv_neg {a : Nat} {i : Int} (h : Lv a i) : Lv a (-i) := by unfold Lv at *; rw [Int.natAbs_neg]; exact h
theorem lv_sub {a b : Nat} {i j : Int} (h : Lv a i) (h' : Lv b j) : Lv (a + b + 1) (i - j) := by rw [Int.sub_eq_add_neg]; exact lv_add h (lv_neg h')
theorem lv_abs {a : Nat} {i j : Int} (h : Lv a j) (hi : i.natAbs ≤ j.natAbs) : Lv a i := Nat.lt_of_le_of_lt hi h
theorem lv_le {a : Nat} {i j : Int} (h : Lv a j) (h0 : 0 ≤ i) (hi : i ≤ j) : Lv a i := lv_abs h (by omega)
theorem lv_div {a : Nat} {i j : Int} (h : Lv a i) (hj : 0 < j) : Lv a (i / j) := by
  refine lv_abs h ?_
  have := Int.natAbs_ediv_le_natAbs i j
  exact this
theorem lv_mod {b : Nat} {i j : Int} (h : Lv b j) (hj : 0 < j) : Lv b (i % j) := by
  have h1 := Int.emod_nonneg i (show j ≠ 0 by omega)
  have h2 := Int.emod_lt_of_pos i hj
  exact lv_le h h1 (by omega)
theorem lv_lit {i : Int} (h : i.natAbs < 2 ^ 8000) : Lv 1 i := by unfold Lv; simpa using h
theorem lv_small {i : Int} (h : i.natAbs ≤ 1000000000000000000) : Lv 1 i := by
  unfold Lv
  refine Nat.lt_of_le_of_lt h (Nat.lt_of_lt_of_le (show 1000000000000000000 < 2 ^ 64 by decide) ?_)
  exact Nat.pow_le_pow_right (by omega) (by omega)
theorem big_of {n : Nat} {i : Int} (h : Lv n i) (hn : n ≤ 7000) : Big i := by
  unfold Lv at h
  unfold Big
  exact Nat.lt_of_lt_of_le h (Nat.pow_le_pow_right (by omega) (by omega))
theorem mul_ok {a b : Nat} {i j : Int} (h : Lv a i) (h' : Lv b j) (ha : a ≤ 7000) (hb : b ≤ 7000) : CMulB i j := ⟨big_of h ha, big_of h' hb⟩
theorem div_ok {j : Int} {i : Int} (h : 0 < j) (h' : Lv 1 j) : CDivW i j := ⟨h, by
  have : j.natAbs < 2 ^ 9000 := Nat.lt_of_lt_of_le h' (Nat.pow_le_pow_right (by omega) (by omega))
  exact PySem.Flt.log2_lt_of (by decide) this⟩
/-! ### any thing that may be handed in -/
/-- a value of a kind that isinstance knows; an int is not too great -/
def Kn (K : PySem.W.Frag) (H : Hp) : V → Prop
  | .non => True
  | .bl _ => True
  | .int i => Lv 1 i
  | .str _ => True
  | .ref a => (∃ xs, H a = some (.lst xs)) ∨ (∃ xs, H a = some (.tup xs)) ∨ ∃ kvs, H a = some (.dK kvs)
  | _ => False
theorem Kn.ex {K : PySem.W.Frag} {H H' : Hp} {x : V} (h : Kn K H x) (e : Ex H H') : Kn K H' x := by
  cases x with
  | ref a =>
    rcases h with ⟨xs, h⟩ | ⟨xs, h⟩ | ⟨kvs, h⟩
    · exact .inl ⟨xs, e _ _ h⟩
    · exact .inr (.inl ⟨xs, e _ _ h⟩)
    · exact .inr (.inr ⟨kvs, e _ _ h⟩)
  | _ => exact h
/-- whether isinstance(x, int), isinstance(x, bool) -/
def isI : V → Bool
  | .int _ => true
  | .bl _ => true
  | _ => false
def isB : V → Bool
  | .bl _ => true
  | _ => false
def numV (x : V) (l m : Int) : Bool := match x with
  | .int i => decide (l ≤ i) && decide (i ≤ m)
  | _ => false
theorem Kn.ty {K : PySem.W.Frag} {H : Hp} {x : V} (h : Kn K H x) : ∃ t : String, TyX K H x (.type t) ∧ PySem.W.kitOne K (.type t) (.type "int") = some (isI x) ∧ PySem.W.kitOne K (.type t) (.type "bool") = some (isB x) := by
  cases x with
  | non => exact ⟨_, .base .non, kit_ty (r := false) (by decide +kernel), kit_ty (r := false) (by decide +kernel)⟩
  | bl b => exact ⟨_, .base (.bl b), kit_ty (r := true) (by decide +kernel), kit_ty (r := true) (by decide +kernel)⟩
  | int i => exact ⟨_, .base (.int i), kit_ty (r := true) (by decide +kernel), kit_ty (r := false) (by decide +kernel)⟩
  | str i => exact ⟨_, .base (.str i), kit_ty (r := false) (by decide +kernel), kit_ty (r := false) (by decide +kernel)⟩
  | ref a =>
    rcases h with ⟨xs, h⟩ | ⟨xs, h⟩ | ⟨kvs, h⟩
    · exact ⟨_, .base (.lst h), kit_ty (r := false) (by decide +kernel), kit_ty (r := false) (by decide +kernel)⟩
    · exact ⟨_, .base (.tup h), kit_ty (r := false) (by decide +kernel), kit_ty (r := false) (by decide +kernel)⟩
    · exact ⟨_, .base (.dK h), kit_ty (r := false) (by decide +kernel), kit_ty (r := false) (by decide +kernel)⟩
  | _ => exact h.elim
section
variable {K : PySem.W.Frag} {σ : L2.St} {H : Hp} {ta tb te tx : TE} {t u : TT} {x y z v : V} {D : Ends} {tu tw tz : TS}
theorem ev_isInt (ha : Ev ta σ H x) (hx : Kn K H x) : Ev (tCB (rIsi K) (tCons ta (tCons (tC (.ty "int")) tNil))) σ H (.bl (isI x)) := fun H1 e Q q =>
  ha H1 e _ fun H2 e2 => by
    obtain ⟨t, h1, h2, h3⟩ := (hx.ex (e.trans e2)).ty
    exact ⟨x, .ty "int", _, _, _, rfl, .ty _, h1, h2, q H2 e2⟩
theorem ev_isBool (ha : Ev ta σ H x) (hx : Kn K H x) : Ev (tCB (rIsi K) (tCons ta (tCons (tC (.ty "bool")) tNil))) σ H (.bl (isB x)) := fun H1 e Q q =>
  ha H1 e _ fun H2 e2 => by
    obtain ⟨t, h1, h2, h3⟩ := (hx.ex (e.trans e2)).ty
    exact ⟨x, .ty "bool", _, _, _, rfl, .ty _, h1, h3, q H2 e2⟩
/-! ### calls that may be refused -/
/-- how a call ends: a value, or an error of the class at C -/
inductive Out where
  | val (v : V)
  | err (C : Addr)
def SpX (sp : Sp) (vs : List V) (H : Hp) (o : Out) : Prop := ∀ H1, Ex H H1 → ∀ (Q : VK) (E : XK), (∀ v, o = .val v → ∀ H2, Ex H1 H2 → Q v H2) → (∀ C, o = .err C → ∀ H2, Ex H1 H2 → E (.ref C) none H2) → sp vs H1 Q E
def EvX (te : TE) (E : XK) (σ : L2.St) (H : Hp) (o : Out) : Prop := ∀ H1, Ex H H1 → ∀ (Q : VK), (∀ v, o = .val v → ∀ H2, Ex H1 H2 → Q v H2) → (∀ C, o = .err C → ∀ H2, Ex H1 H2 → E (.ref C) none H2) → te σ H1 Q
theorem EvX.mono {H' : Hp} {E : XK} {o : Out} (e : Ex H H') (h : EvX te E σ H o) : EvX te E σ H' o := fun H1 a Q q r => h H1 (e.trans a) Q q r
theorem evx_call {sp : Sp} {E : XK} {ta : TA} {vs : List V} {o : Out} (h : EvA ta σ H vs) (hs : SpX sp vs H o) : EvX (tCall sp [] E ta) E σ H o := fun H1 e Q q r =>
  h H1 e _ fun H2 e2 => by
    show sp (vs ++ []) H2 Q E
    rw [List.append_nil]
    exact hs H2 (e.trans e2) Q E (fun v hv H3 e3 => q v hv H3 (e2.trans e3)) fun C hC H3 e3 => r C hC H3 (e2.trans e3)
theorem spv_of {sp : Sp} {vs : List V} (h : SpX sp vs H (.val v)) : SpV sp vs H v := fun H1 e Q q E =>
  h H1 e Q E (fun v' hv H2 e2 => by cases hv; exact q H2 e2) fun C hC => nomatch hC
theorem spx_of {sp : Sp} {vs : List V} (h : SpV sp vs H v) : SpX sp vs H (.val v) := fun H1 e Q E q _ => h H1 e Q (fun H2 e2 => q v rfl H2 e2) E
theorem g_dropX {E : XK} {o : Out} (h : EvX te E σ H o) (k : ∀ v, o = .val v → Go tz D σ H) (r : ∀ C, o = .err C → ∀ H1, Ex H H1 → E (.ref C) none H1) : Go (tSeq (tDrop te) tz) D σ H := fun H' e =>
  h H' e _ (fun v hv H2 e2 => k v hv H2 (e.trans e2)) fun C hC H2 e2 => r C hC H2 (e.trans e2)
theorem g_retX {E : XK} {o : Out} (h : EvX te E σ H o) (k : ∀ v, o = .val v → ∀ H1, Ex H H1 → D.rt v H1) (r : ∀ C, o = .err C → ∀ H1, Ex H H1 → E (.ref C) none H1) : Go (tSeq (tRet te) tz) D σ H := fun H' e =>
  h H' e _ (fun v hv H2 e2 => k v hv H2 (e.trans e2)) fun C hC H2 e2 => r C hC H2 (e.trans e2)
theorem g_raise {W : L2.St → Hp → Prop} (h : ∀ H1, Ex H H1 → W σ H1) : Go (tSeq (fun _ σ H => W σ H) tz) D σ H := fun H' e => h H' e
/-- a tuple's places taken apart -/
theorem g_asgT {n : Nat} {g : TGs} {xs : List V} (h : EvU te σ H xs) (hn : xs.length = n) (k : ∀ H1, Ex H H1 → g xs σ H1 fun σ2 H2 => tz D σ2 H2) : Go (tSeq (tAsg te (gTup K n g)) tz) D σ H := fun H' e =>
  h H' e _ fun p H2 np e2 hp => ⟨p, xs, rfl, st_of hp, hn, k H2 (e.trans e2)⟩
theorem g_asg4 {i j k l : Nat} {a b c d : V} (h : EvU te σ H [a, b, c, d]) (q : Go tz D ((((σ.set i (some a)).set j (some b)).set k (some c)).set l (some d)) H) :
    Go (tSeq (tAsg te (gTup K 4 (gCons (gName i) (gCons (gName j) (gCons (gName k) (gCons (gName l) gNil)))))) tz) D σ H :=
  g_asgT h rfl fun H1 e => ⟨a, _, rfl, b, _, rfl, c, _, rfl, d, _, rfl, rfl, q H1 e⟩
theorem g_asg3 {i j k : Nat} {a b c : V} (h : EvU te σ H [a, b, c]) (q : Go tz D (((σ.set i (some a)).set j (some b)).set k (some c)) H) :
    Go (tSeq (tAsg te (gTup K 3 (gCons (gName i) (gCons (gName j) (gCons (gName k) gNil))))) tz) D σ H :=
  g_asgT h rfl fun H1 e => ⟨a, _, rfl, b, _, rfl, c, _, rfl, rfl, q H1 e⟩
theorem g_asg2 {i j : Nat} {a b : V} (h : EvU te σ H [a, b]) (q : Go tz D ((σ.set i (some a)).set j (some b)) H) :
    Go (tSeq (tAsg te (gTup K 2 (gCons (gName i) (gCons (gName j) gNil)))) tz) D σ H :=
  g_asgT h rfl fun H1 e => ⟨a, _, rfl, b, _, rfl, rfl, q H1 e⟩
end
/-- no exception leaves where none is wished -/
theorem quiet {P : Program} {w : World} {K : PySem.W.Frag} {mg : Str → Option Value} {base : Heap} {k : Nat} {f : Addr} {fd : FuncData} {ps : List Str} {sp : Sp} (F : FnOk P w K mg base (L2.CX P w) k f fd ps sp) :
    FnOk P w K mg base CX0 k f fd ps (fun vs H Q _ => sp vs H Q E0) := by
  refine ⟨fun vs H Q E h => F.len vs H Q E0 h, fun A outer s H args us vs Q E hr e0 hb r hsp => ?_⟩
  have h := F.run A outer s H args us vs Q E0 hr e0 hb r hsp
  refine codeAny_mono h fun r s' hr => ?_
  cases r with
  | ok c => cases c with
    | ret u => exact hr
    | _ => exact hr
  | error u =>
    obtain ⟨_, _, _, _, _, _, _, _, _, _, _, _, z⟩ := hr
    exact z.elim
end RG
namespace RG
open PySem PySem.Spec PyProof.Rows L2 Evl RS
theorem nt {b : Bool} (h : (!b) = false) : b = true := by cases b; cases h; rfl
theorem nf {b : Bool} (h : (!b) = true) : ¬ b = true := by cases b; simp; cases h
/-! ### how a call ends -/
def Fin (o : Out) (H : Hp) (Q : VK) (E : XK) : Prop := (∀ v, o = .val v → ∀ H', Ex H H' → Q v H') ∧ ∀ C, o = .err C → ∀ H', Ex H H' → E (.ref C) none H'
theorem Fin.val {v : V} {H : Hp} {Q : VK} {E : XK} (h : Fin (.val v) H Q E) : ∀ H', Ex H H' → Q v H' := h.1 v rfl
theorem Fin.err {C : Addr} {H : Hp} {Q : VK} {E : XK} (h : Fin (.err C) H Q E) : ∀ H', Ex H H' → E (.ref C) none H' := h.2 C rfl
theorem fin_of {o : Out} {H : Hp} {Q : VK} {E : XK} (q : ∀ v, o = .val v → ∀ H2, Ex H H2 → Q v H2) (r : ∀ C, o = .err C → ∀ H2, Ex H H2 → E (.ref C) none H2) : Fin o H Q E := ⟨q, r⟩
/-! ### the module's facts -/
/-- a def of the module: where it stands -/
structure At (K : PySem.W.Frag) (mg : Str → Option Value) (x : Str) (st : Stmt) (ps : List Str) (f : Addr) (fd : FuncData) : Prop where
  fn : Fun K x x st f fd
  b : Binds K fd ps []
  g : mg x = some (.ref f)
/-- an error's class -/
structure ErrAt (K : PySem.W.Frag) (mg : Str → Option Value) (n : Str) (C : Addr) : Prop where
  x : PySem.W.excIn K C [.type "ValueError", .type "Exception", .type "BaseException", .type "object"] "ValueError.__new__" = true
  g : mg n = some (.ref C)
  k : PySem.W.keepIn K (.ref C) = true
  b : PySem.W.subIn K (.ref C) (.type "BaseException") = some true
  t : PySem.W.typeIn K (.ref C) = some (.type "type")
/-- the built-ins stand as they are -/
structure Blt (mg : Str → Option Value) : Prop where
  z_isinstance : mg "isinstance" = none
  z_int : mg "int" = none
  z_bool : mg "bool" = none
  z_len : mg "len" = none
  z_sum : mg "sum" = none
  z_min : mg "min" = none
  z_max : mg "max" = none
  z_sorted : mg "sorted" = none
  z_range : mg "range" = none
  z_enumerate : mg "enumerate" = none
  z_reversed : mg "reversed" = none
  z_zip : mg "zip" = none
  z_abs : mg "abs" = none
  z_all : mg "all" = none
  z_any : mg "any" = none
  z_list : mg "list" = none
  z_tuple : mg "tuple" = none
  z_set : mg "set" = none
  z_str : mg "str" = none
  z_ValueError : mg "ValueError" = none
/-! ### what is told of any things -/
/-- the number that a value is -/
def iv : V → Int
  | .int i => i
  | _ => 0
def numW (x : V) (l : Int) (m : V) : Bool := match x, m with
  | .int i, .int j => decide (l ≤ i) && decide (i ≤ j)
  | _, _ => false
def okP : V → Bool
  | .int i => decide (1 ≤ i)
  | _ => false
/-- a step, a mark, a place: from l on to m -/
def okIn (x : V) (l m : Int) : Bool := match x with
  | .int i => decide (l ≤ i) && decide (i ≤ m)
  | _ => false
theorem okIn_iff {x : V} {l m : Int} : okIn x l m = true ↔ ∃ i, x = .int i ∧ l ≤ i ∧ i ≤ m := by
  cases x <;> simp [okIn]
theorem okP_iff {x : V} : okP x = true ↔ ∃ i, x = .int i ∧ 1 ≤ i := by
  cases x <;> simp [okP]
theorem numW_okIn {x : V} {l m : Int} : numW x l (.int m) = okIn x l m := by cases x <;> rfl
theorem numW_okP {x : V} : numW x 1 x = okP x := by
  cases x <;> simp [numW, okP]
/-- the classes: places, step, marks, place, mark -/
structure Cs where
  (cp cs cm cl ck : Addr)
def ringO (c : Cs) (p s : V) : Out := if okP p then (if okIn s 0 (iv p - 1) then .val .non else .err c.cs) else .err c.cp
def marksO (c : Cs) (p s m : V) : Out := match ringO c p s with
  | .err C => .err C
  | .val _ => if okIn m 1 (top (iv p) (iv s)) then .val .non else .err c.cm
def stretchO (c : Cs) (p b e : V) : Out := if okIn b 0 (iv p - 1) && okIn e 0 (iv p - 1) && decide (iv b ≤ iv e) then .val .non else .err c.cl
def markO (c : Cs) (k m : V) : Out := if okIn k 0 (iv m - 1) then .val .non else .err c.ck
/-- a ring -/
structure Ring (P S : Int) : Prop where
  p : 1 ≤ P
  s0 : 0 ≤ S
  s : S < P
theorem lv_G {p s : Int} (R : Ring p s) (l : Lv 1 p) : Lv 1 (G p s) := lv_le l (Int.le_of_lt (G_pos (s := s) (by have := R.p; omega))) (G_le (by have := R.p; omega))
theorem lv_top {p s : Int} (R : Ring p s) (l : Lv 1 p) : Lv 1 (top p s) := lv_le l (Int.le_of_lt (top_pos (s := s) (by have := R.p; omega))) (top_le (by have := R.p; omega))
theorem Ring.ls {p s : Int} (R : Ring p s) (l : Lv 1 p) : Lv 1 s := lv_le l R.s0 (by have := R.s; omega)
theorem ringO_val {c : Cs} {p s v : V} (h : ringO c p s = .val v) : v = .non ∧ ∃ P S, p = .int P ∧ s = .int S ∧ Ring P S := by
  unfold ringO at h
  split at h
  · rename_i h1
    split at h
    · rename_i h2
      obtain ⟨P, rfl, hP⟩ := okP_iff.mp h1
      obtain ⟨S, rfl, hS0, hS⟩ := okIn_iff.mp h2
      cases h
      exact ⟨rfl, P, S, rfl, rfl, hP, hS0, by have : S ≤ P - 1 := hS; omega⟩
    · cases h
  · cases h
theorem ringO_ok {c : Cs} {P S : Int} (h : Ring P S) : ringO c (.int P) (.int S) = .val .non := by
  unfold ringO
  rw [if_pos (okP_iff.mpr ⟨P, rfl, h.p⟩), if_pos (okIn_iff.mpr ⟨S, rfl, h.s0, by show S ≤ P - 1; have := h.s; omega⟩)]
theorem marksO_val {c : Cs} {p s m v : V} (h : marksO c p s m = .val v) : v = .non ∧ ∃ P S M, p = .int P ∧ s = .int S ∧ m = .int M ∧ Ring P S ∧ 1 ≤ M ∧ M ≤ top P S := by
  unfold marksO at h
  split at h
  · cases h
  · rename_i v' hr
    split at h
    · rename_i h2
      obtain ⟨_, P, S, rfl, rfl, R⟩ := ringO_val hr
      obtain ⟨M, rfl, h1, h3⟩ := okIn_iff.mp h2
      cases h
      exact ⟨rfl, P, S, M, rfl, rfl, rfl, R, h1, h3⟩
    · cases h
theorem marksO_ok {c : Cs} {P S M : Int} (h : Ring P S) (h1 : 1 ≤ M) (h2 : M ≤ top P S) : marksO c (.int P) (.int S) (.int M) = .val .non := by
  unfold marksO
  rw [ringO_ok h]
  exact if_pos (okIn_iff.mpr ⟨M, rfl, h1, h2⟩)
theorem stretchO_val {c : Cs} {p b e v : V} (h : stretchO c p b e = .val v) : v = .non ∧ ∃ B E, b = .int B ∧ e = .int E ∧ 0 ≤ B ∧ B ≤ E ∧ E < iv p := by
  unfold stretchO at h
  split at h
  · rename_i h1
    rw [Bool.and_eq_true, Bool.and_eq_true] at h1
    obtain ⟨⟨h1, h2⟩, h3⟩ := h1
    obtain ⟨B, rfl, hB0, hB⟩ := okIn_iff.mp h1
    obtain ⟨E, rfl, hE0, hE⟩ := okIn_iff.mp h2
    have h4 : B ≤ E := of_decide_eq_true h3
    cases h
    exact ⟨rfl, B, E, rfl, rfl, hB0, h4, by omega⟩
  · cases h
theorem stretchO_ok {c : Cs} {p : V} {B E : Int} (h1 : 0 ≤ B) (h2 : B ≤ E) (h3 : E < iv p) : stretchO c p (.int B) (.int E) = .val .non := by
  unfold stretchO
  rw [okIn_iff.mpr ⟨B, rfl, h1, by omega⟩, okIn_iff.mpr ⟨E, rfl, by omega, by omega⟩, decide_eq_true (show iv (.int B) ≤ iv (.int E) from h2)]
  rfl
theorem markO_val {c : Cs} {k m v : V} (h : markO c k m = .val v) : v = .non ∧ ∃ i, k = .int i ∧ 0 ≤ i ∧ i < iv m := by
  unfold markO at h
  split at h
  · rename_i h1
    obtain ⟨i, rfl, h2, h3⟩ := okIn_iff.mp h1
    cases h
    exact ⟨rfl, i, rfl, h2, by omega⟩
  · cases h
theorem markO_ok {c : Cs} {m : V} {i : Int} (h1 : 0 ≤ i) (h2 : i < iv m) : markO c (.int i) m = .val .non := by
  unfold markO
  rw [okIn_iff.mpr ⟨i, rfl, h1, by omega⟩]
  rfl
end RG
namespace RG
open PySem PySem.Spec PyProof.Rows L2 Evl RS
/-! ### data at any depth -/
mutual
theorem dp_ex {K : PySem.W.Frag} {H H' : Hp} (e : Ex H H') : ∀ {v : V} {d : PyData}, Dp K H v d → Dp K H' v d
  | _, _, .non => .non
  | _, _, .bl b => .bl b
  | _, _, .int i => .int i
  | _, _, .str x => .str x
  | _, _, .lst h hs => .lst (ex_l e h) (dps_ex e hs)
  | _, _, .tup h hs => .tup (ex_t e h) (dps_ex e hs)
theorem dps_ex {K : PySem.W.Frag} {H H' : Hp} (e : Ex H H') : ∀ {vs : List V} {ds : List PyData}, DpAll K H vs ds → DpAll K H' vs ds
  | _, _, .nil => .nil
  | _, _, .cons h hs => .cons (dp_ex e h) (dps_ex e hs)
end
/-- evaluates to some value that holds the data d -/
def EvD (K : PySem.W.Frag) (te : TE) (σ : L2.St) (H : Hp) (d : PyData) : Prop := ∀ H1, Ex H H1 → ∀ Q : VK, (∀ v H2, Ex H1 H2 → Dp K H2 v d → Q v H2) → te σ H1 Q
def EvDs (K : PySem.W.Frag) (ta : TA) (σ : L2.St) (H : Hp) (ds : List PyData) : Prop := ∀ H1, Ex H H1 → ∀ Q : List V → Hp → Prop, (∀ vs H2, Ex H1 H2 → DpAll K H2 vs ds → Q vs H2) → ta σ H1 Q
section
variable {K : PySem.W.Frag} {σ : L2.St} {H : Hp} {ta tb te tx : TE} {t u : TT} {x y z v : V} {D : Ends} {tu tw tz : TS} {g : TG} {d d' : PyData} {ds : List PyData}
theorem EvD.mono {H' : Hp} (e : Ex H H') (h : EvD K te σ H d) : EvD K te σ H' d := fun H1 a Q q => h H1 (e.trans a) Q q
theorem ed_int {i : Int} (h : Ev te σ H (.int i)) : EvD K te σ H (.int i) := fun H1 e Q q => h H1 e _ fun H2 e2 => q _ H2 e2 (.int i)
theorem ed_of (h : Ev te σ H v) (hd : Dp K H v d) : EvD K te σ H d := fun H1 e Q q => h H1 e _ fun H2 e2 => q _ H2 e2 (dp_ex (e.trans e2) hd)
theorem eds_nil : EvDs K tNil σ H [] := fun H1 e Q q => q [] H1 (Ex.refl H1) .nil
theorem eds_cons {tr : TA} (h : EvD K te σ H d) (hr : EvDs K tr σ H ds) : EvDs K (tCons te tr) σ H (d :: ds) := fun H1 e Q q =>
  h H1 e _ fun v H2 e2 h2 => hr H2 (e.trans e2) _ fun vs H3 e3 h3 => q _ H3 (e2.trans e3) (.cons (dp_ex e3 h2) h3)
theorem dps_len : ∀ {vs : List V} {ds : List PyData} {H : Hp}, DpAll K H vs ds → vs.length = ds.length
  | _, _, _, .nil => rfl
  | _, _, _, .cons _ h => congrArg (· + 1) (dps_len h)
theorem ed_tup {ta : TA} (h : EvDs K ta σ H ds) (hl : ds.length ≤ 100000) : EvD K (tTup ta) σ H (.tuple ds) := fun H1 e Q q =>
  h H1 e _ fun vs H2 e2 h2 => ⟨sz_of (by rw [dps_len h2]; exact hl), fun p hp => q (.ref p) _ (e2.trans (Ex.new hp)) (.tup (st_of upd_same) (dps_ex (Ex.new hp) h2))⟩
theorem ed_lst {ta : TA} (h : EvDs K ta σ H ds) (hl : ds.length ≤ 100000) : EvD K (tLst ta) σ H (.list ds) := fun H1 e Q q =>
  h H1 e _ fun vs H2 e2 h2 => ⟨sz_of (by rw [dps_len h2]; exact hl), fun p hp => q (.ref p) _ (e2.trans (Ex.new hp)) (.lst (sq_of upd_same) (dps_ex (Ex.new hp) h2))⟩
theorem g_asgD {i : Nat} (h : EvD K te σ H d) (k : ∀ v H1, Ex H H1 → Dp K H1 v d → Go tz D (σ.set i (some v)) H1) : Go (tSeq (tAsg te (gName i)) tz) D σ H := fun H' e =>
  h H' e _ fun v H1 e1 hv => (k v H1 (e.trans e1) hv).at
theorem g_retD (h : EvD K te σ H d) (k : ∀ v H1, Ex H H1 → Dp K H1 v d → D.rt v H1) : Go (tSeq (tRet te) tz) D σ H := fun H' e =>
  h H' e _ fun v H1 e1 hv => k v H1 (e.trans e1) hv
/-! ### lists of ints -/
theorem ev_sum {p : Addr} {ns : List Int} (ha : Ev ta σ H (.ref p)) (h : SqL K H p (ns.map V.int)) : Ev (tCB (rSum K) (tCons ta tNil)) σ H (.int ns.sum) := fun H1 e Q q =>
  ha H1 e _ fun H2 e2 => ⟨p, ns, rfl, ex_l (e.trans e2) h, q H2 e2⟩
theorem ev_sumN {ns : List Int} (ha : EvL ta σ H (ns.map V.int)) : Ev (tCB (rSum K) (tCons ta tNil)) σ H (.int ns.sum) := fun H1 e Q q =>
  ha H1 e _ fun p H2 _ e2 h2 => ⟨p, ns, rfl, sq_of h2, q H2 e2⟩
theorem ev_len' {p : Addr} {xs : List V} (ha : Ev ta σ H (.ref p)) (h : SqL K H p xs) : Ev (tCB (rLenS K) (tCons ta tNil)) σ H (.int (xs.length : Int)) := ev_len ha h
theorem el_slN {tl th : TO} {xs : List V} {lo hi : Option Int} (h : EvL te σ H xs) (h1 : EvO tl σ H lo) (h2 : EvO th σ H hi) : EvL (tSl (rSlL K) te tl th) σ H (cutV xs lo hi) := fun H1 e Q q =>
  h H1 e _ fun a H2 na e2 ha => h1 H2 (e.trans e2) _ fun H3 e3 => h2 H3 ((e.trans e2).trans e3) _ fun H4 e4 =>
    ⟨a, xs, rfl, sq_of (e4 a _ (e3 a _ ha)), fun p hp => q p _ (fresh_back ((e2.trans e3).trans e4) hp) (((e2.trans e3).trans e4).trans (Ex.new hp)) upd_same⟩
theorem el_catNN {xs ys : List V} (h1 : EvL ta σ H xs) (h2 : EvL tb σ H ys) (hl : xs.length + ys.length ≤ 100000) : EvL (tOp rCat ta tb) σ H (xs ++ ys) := fun H1 e Q q =>
  h1 H1 e _ fun a H2 na e2 ha => h2 H2 (e.trans e2) _ fun b H3 nb e3 hb => ⟨a, b, xs, ys, rfl, rfl, e3 a _ ha, hb, sz_of hl, fun p hp => q p _ (fresh_back (e2.trans e3) hp) ((e2.trans e3).trans (Ex.new hp)) upd_same⟩
theorem el_cat1N {xs ys : List V} {l : Addr} (h1 : Ev ta σ H (.ref l)) (hx : H l = some (.lst xs)) (h2 : EvL tb σ H ys) (hl : xs.length + ys.length ≤ 100000) : EvL (tOp rCat ta tb) σ H (xs ++ ys) := fun H1 e Q q =>
  h1 H1 e _ fun H2 e2 => h2 H2 (e.trans e2) _ fun b H3 nb e3 hb => ⟨l, b, xs, ys, rfl, rfl, ((e.trans e2).trans e3) l _ hx, hb, sz_of hl, fun p hp => q p _ (fresh_back (e2.trans e3) hp) ((e2.trans e3).trans (Ex.new hp)) upd_same⟩
theorem el_rep1 {xs : List V} {l : Addr} {n : Int} (h1 : Ev ta σ H (.ref l)) (hx : H l = some (.lst xs)) (h2 : Ev tb σ H (.int n)) (hn : 0 ≤ n ∧ n ≤ 1000) (hl : xs.length * n.toNat ≤ 100000) : EvL (tOp rRep ta tb) σ H (List.replicate n.toNat xs).flatten := fun H1 e Q q =>
  h1 H1 e _ fun H2 e2 => h2 H2 (e.trans e2) _ fun H3 e3 => ⟨l, n, xs, rfl, rfl, ((e.trans e2).trans e3) l _ hx, by omega, by omega, sz_of hl, fun p hp => q p _ (fresh_back (e2.trans e3) hp) ((e2.trans e3).trans (Ex.new hp)) upd_same⟩
theorem el_sortN {ns : List Int} (P : List Int → Prop) (hP : ∀ ns' : List Int, ns'.Perm ns → ns'.Pairwise (· ≤ ·) → P ns') (h : EvL te σ H (ns.map V.int)) :
    ∀ H1, Ex H H1 → ∀ Q : VK, (∀ (ns' : List Int) p H2, P ns' → H1 p = none → Ex H1 H2 → H2 p = some (.lst (ns'.map V.int)) → Q (.ref p) H2) → tCB (rSortedI K) (tCons te tNil) σ H1 Q := fun H1 e Q q =>
  h H1 e _ fun a H2 na e2 ha => ⟨a, ns, rfl, sq_of ha, fun ns' p h1 h2 hp => q ns' p _ (hP ns' h1 h2) (fresh_back e2 hp) (e2.trans (Ex.new hp)) upd_same⟩
theorem sorted2 {a b : Int} {ns : List Int} (h : ns.Perm [a, b]) (h2 : ns.Pairwise (· ≤ ·)) : ns = [min a b, max a b] := by
  have hl := h.length_eq
  match ns, hl with
  | [x, y], _ =>
    have hxy : x ≤ y := by simpa using h2
    have hx : x ∈ [a, b] := h.subset (by simp)
    have hy : y ∈ [a, b] := h.subset (by simp)
    have ha : a ∈ [x, y] := h.symm.subset (by simp)
    have hb : b ∈ [x, y] := h.symm.subset (by simp)
    simp only [List.mem_cons, List.not_mem_nil, or_false] at hx hy ha hb
    simp only [List.cons.injEq, and_true]
    omega
/-- sorted([a, b]) -/
theorem el_sort2 {a b : Int} (h : EvL te σ H [.int a, .int b]) : EvL (tCB (rSortedI K) (tCons te tNil)) σ H [.int (min a b), .int (max a b)] := fun H1 e Q q =>
  el_sortN (ns := [a, b]) (fun ns => ns = [min a b, max a b]) (fun ns h1 h2 => sorted2 h1 h2) h H1 e Q fun ns p H2 hP np e2 hp => by
    subst hP
    exact q p H2 np e2 hp
theorem rMin_eq {i j : Int} : (if j < i then j else i) = min i j := by split <;> omega
theorem rMax_eq {i j : Int} : (if j > i then j else i) = max i j := by split <;> omega
def rMin2 : List V → Hp → VK → Prop := fun xs H Q => ∃ i j, xs = [.int i, .int j] ∧ Q (.int (if j < i then j else i)) H
theorem ev_min {i j : Int} (h1 : Ev ta σ H (.int i)) (h2 : Ev tb σ H (.int j)) : Ev (tCB rMin2 (tCons ta (tCons tb tNil))) σ H (.int (min i j)) := fun H1 e Q q =>
  h1 H1 e _ fun H2 e2 => h2 H2 (e.trans e2) _ fun H3 e3 => ⟨i, j, rfl, by rw [rMin_eq]; exact q H3 (e2.trans e3)⟩
theorem ev_max {i j : Int} (h1 : Ev ta σ H (.int i)) (h2 : Ev tb σ H (.int j)) : Ev (tCB Evl.rMax2 (tCons ta (tCons tb tNil))) σ H (.int (max i j)) := fun H1 e Q q =>
  h1 H1 e _ fun H2 e2 => h2 H2 (e.trans e2) _ fun H3 e3 => ⟨i, j, rfl, by rw [rMax_eq]; exact q H3 (e2.trans e3)⟩
def rAbs : List V → Hp → VK → Prop := fun xs H Q => ∃ i, xs = [.int i] ∧ Q (.int (if i < 0 then -i else i)) H
theorem ev_abs {i : Int} (h1 : Ev ta σ H (.int i)) : Ev (tCB rAbs (tCons ta tNil)) σ H (.int i.natAbs) := fun H1 e Q q =>
  h1 H1 e _ fun H2 e2 => ⟨i, rfl, by
    have : (if i < 0 then -i else i) = (i.natAbs : Int) := by split <;> omega
    rw [this]; exact q H2 e2⟩
/-- an item of a tuple made on the way -/
theorem ev_ixU {xs : List V} {i : Int} (h : EvU ta σ H xs) (hi : Ev tb σ H (.int i)) (ha : atI xs i = some v) : Ev (tOp (rIxT K) ta tb) σ H v := fun H1 e Q q =>
  h H1 e _ fun p H2 _ e2 hp => hi H2 (e.trans e2) _ fun H3 e3 => ⟨p, xs, i, v, rfl, rfl, st_of (e3 p _ hp), ha, q H3 (e2.trans e3)⟩
theorem ev_ixL {xs : List V} {p : Addr} {i : Int} (h : Ev ta σ H (.ref p)) (hs : SqL K H p xs) (hi : Ev tb σ H (.int i)) (ha : atI xs i = some v) : Ev (tOp (rIxL K) ta tb) σ H v := ev_op h hi (rv_ixL hs ha)
theorem ev_ixT {xs : List V} {p : Addr} {i : Int} (h : Ev ta σ H (.ref p)) (hs : SqT K H p xs) (hi : Ev tb σ H (.int i)) (ha : atI xs i = some v) : Ev (tOp (rIxT K) ta tb) σ H v := ev_op h hi (rv_ixT hs ha)
/-- a, b = a list of two -/
theorem g_unl2 {i j : Nat} {a b : V} (h : EvL te σ H [a, b]) (q : Go tz D ((σ.set i (some a)).set j (some b)) H) : Go (tSeq (tAsg te (gUnl K 2 (gCons (gName i) (gCons (gName j) gNil)))) tz) D σ H := fun H' e =>
  h H' e _ fun p H2 np e2 hp => ⟨p, _, rfl, sq_of hp, rfl, a, _, rfl, b, _, rfl, rfl, q H2 (e.trans e2)⟩
/-- a, b, c = a tuple that stands -/
theorem g_unt3 {i j k : Nat} {a b c : V} {p : Addr} (h : Ev te σ H (.ref p)) (hp : SqT K H p [a, b, c]) (q : Go tz D (((σ.set i (some a)).set j (some b)).set k (some c)) H) : Go (tSeq (tAsg te (gTup K 3 (gCons (gName i) (gCons (gName j) (gCons (gName k) gNil))))) tz) D σ H := fun H' e =>
  h H' e _ fun H2 e2 => ⟨p, _, rfl, ex_t (e.trans e2) hp, rfl, a, _, rfl, b, _, rfl, c, _, rfl, rfl, q H2 (e.trans e2)⟩
theorem g_unt2 {i j : Nat} {a b : V} {p : Addr} (h : Ev te σ H (.ref p)) (hp : SqT K H p [a, b]) (q : Go tz D ((σ.set i (some a)).set j (some b)) H) : Go (tSeq (tAsg te (gTup K 2 (gCons (gName i) (gCons (gName j) gNil)))) tz) D σ H := fun H' e =>
  h H' e _ fun H2 e2 => ⟨p, _, rfl, ex_t (e.trans e2) hp, rfl, a, _, rfl, b, _, rfl, rfl, q H2 (e.trans e2)⟩
/-! ### what is walked: n turns, the target's slots behind each -/
def EvF (wi : TI) (g : TG) (σ : L2.St) (H : Hp) (n : Nat) (f : Nat → L2.St → L2.St) : Prop := ∀ H1, Ex H H1 → ∀ R : It → Hp → Prop,
  (∀ J H2, Ex H1 H2 → (∃ Y, Walk J n (Ex H2) Y ∧ ∀ i σ' H' x H'', i < n → Ex H2 H' → Y i H' x H'' → ∀ Q : L2.St → Hp → Prop, (∀ H3, Ex H' H3 → Q (f i σ') H3) → g x σ' H'' Q) → R J H2) → wi σ H1 R
theorem ef_list {p : Addr} {xs : List V} {j : Nat} (h : Ev te σ H (.ref p)) (hs : SqL K H p xs) : EvF (iList K te) (gName j) σ H xs.length fun i σ' => σ'.set j xs[i]? := fun H1 e R r =>
  h H1 e _ fun H2 e2 => ⟨p, rfl, ⟨xs, ex_l (e.trans e2) hs⟩, r _ H2 e2 ⟨_, walk_list.mono (fun H' e' => ex_l ((e.trans e2).trans e') hs) (fun _ _ _ _ _ _ y => y), fun i σ' H' x H'' hi e' y Q q => by
    obtain ⟨rfl, y2⟩ := y
    show Q (σ'.set j (some x)) H''
    rw [← y2]
    exact q H'' (Ex.refl _)⟩⟩
theorem ef_listN {xs : List V} {j : Nat} (h : EvL te σ H xs) : EvF (iList K te) (gName j) σ H xs.length fun i σ' => σ'.set j xs[i]? := fun H1 e R r =>
  h H1 e _ fun p H2 _ e2 hp => ⟨p, rfl, ⟨xs, sq_of hp⟩, r _ H2 e2 ⟨_, walk_list.mono (fun H' e' => sq_of (e' p _ hp)) (fun _ _ _ _ _ _ y => y), fun i σ' H' x H'' hi e' y Q q => by
    obtain ⟨rfl, y2⟩ := y
    show Q (σ'.set j (some x)) H''
    rw [← y2]
    exact q H'' (Ex.refl _)⟩⟩
theorem ef_range {ta : TA} {j : Nat} {n : Int} (h : EvA ta σ H [.int n]) (hn : n ≤ 1000000000) (hn0 : 0 ≤ n) : EvF (iRng1 ta) (gName j) σ H n.toNat fun i σ' => σ'.set j (some (.int (i : Nat))) := fun H1 e R r =>
  h H1 e _ fun H2 e2 => ⟨n, rfl, by omega, by omega, r _ H2 e2 ⟨_, walk_range.mono (fun _ _ => trivial) (fun _ _ _ _ _ _ y => y), fun i σ' H' x H'' hi e' y Q q => by
    obtain ⟨rfl, rfl⟩ := y
    show Q (σ'.set j (some (.int (0 + (i : Int))))) H''
    rw [Int.zero_add]
    exact q H'' (Ex.refl _)⟩⟩
theorem ef_enum {ta : TA} {p : Addr} {xs : List V} {j k : Nat} (h : EvA ta σ H [.ref p]) (hs : SqL K H p xs) : EvF (iEnum K ta) (gTup K 2 (gCons (gName j) (gCons (gName k) gNil))) σ H xs.length fun i σ' => (σ'.set j (some (.int (i : Nat)))).set k xs[i]? := fun H1 e R r =>
  h H1 e _ fun H2 e2 => ⟨p, xs, rfl, ex_l (e.trans e2) hs, r _ H2 e2 ⟨_, walk_enum.mono (fun H' e' => ex_l ((e.trans e2).trans e') hs) (fun _ _ _ _ _ _ y => y), fun i σ' H' x H'' hi e' y Q q => by
    obtain ⟨T, a, b, rfl, nT, rfl, ha, hb⟩ := y
    cases ha
    refine ⟨T, _, rfl, st_of upd_same, rfl, _, _, rfl, _, _, rfl, rfl, ?_⟩
    have z := q (upd H' T (.tup [.int (i : Nat), b])) (Ex.new nT)
    have hb' : xs[i]? = some b := hb
    show Q ((σ'.set j (some (.int (i : Nat)))).set k (some b)) (upd H' T (.tup [.int (i : Nat), b]))
    rw [← hb']
    exact z⟩⟩
theorem ef_enumN {xs : List V} {j k : Nat} (h : EvL te σ H xs) : EvF (iEnum K (tCons te tNil)) (gTup K 2 (gCons (gName j) (gCons (gName k) gNil))) σ H xs.length fun i σ' => (σ'.set j (some (.int (i : Nat)))).set k xs[i]? := fun H1 e R r =>
  h H1 e _ fun p H2 _ e2 hp => ⟨p, xs, rfl, sq_of hp, r _ H2 e2 ⟨_, walk_enum.mono (fun H' e' => sq_of (e' p _ hp)) (fun _ _ _ _ _ _ y => y), fun i σ' H' x H'' hi e' y Q q => by
    obtain ⟨T, a, b, rfl, nT, rfl, ha, hb⟩ := y
    cases ha
    refine ⟨T, _, rfl, st_of upd_same, rfl, _, _, rfl, _, _, rfl, rfl, ?_⟩
    have z := q (upd H' T (.tup [.int (i : Nat), b])) (Ex.new nT)
    have hb' : xs[i]? = some b := hb
    show Q ((σ'.set j (some (.int (i : Nat)))).set k (some b)) (upd H' T (.tup [.int (i : Nat), b]))
    rw [← hb']
    exact z⟩⟩
/-- over a list of pairs: at xs[i] stands the pair f i -/
theorem ef_pairs {p : Addr} {xs : List V} {j k : Nat} {f : Nat → V × V} (h : Ev te σ H (.ref p)) (hs : SqL K H p xs) (hf : ∀ i, i < xs.length → ∃ a, xs[i]? = some (.ref a) ∧ SqT K H a [(f i).1, (f i).2]) :
    EvF (iList K te) (gTup K 2 (gCons (gName j) (gCons (gName k) gNil))) σ H xs.length fun i σ' => (σ'.set j (some (f i).1)).set k (some (f i).2) := fun H1 e R r =>
  h H1 e _ fun H2 e2 => ⟨p, rfl, ⟨xs, ex_l (e.trans e2) hs⟩, r _ H2 e2 ⟨_, walk_list.mono (fun H' e' => ex_l ((e.trans e2).trans e') hs) (fun _ _ _ _ _ _ y => y), fun i σ' H' x H'' hi e' y Q q => by
    obtain ⟨rfl, y2⟩ := y
    obtain ⟨a, h1, h2⟩ := hf i hi
    rw [h1] at y2
    cases y2
    exact ⟨a, _, rfl, ex_t ((e.trans e2).trans e') h2, rfl, _, _, rfl, _, _, rfl, rfl, q H'' (Ex.refl _)⟩⟩⟩
/-- a for that changes nothing that stood -/
theorem g_for {wi : TI} {n : Nat} {f : Nat → L2.St → L2.St} (h : EvF wi g σ H n f) (W : Nat → L2.St → Prop) (h0 : W 0 σ)
    (hs : ∀ H2, Ex H H2 → ∀ i σ', i < n → W i σ' → Go tu { D with nx := fun σ3 H3 => Ex H2 H3 ∧ W (i + 1) σ3, ct := fun σ3 H3 => Ex H2 H3 ∧ W (i + 1) σ3, bk := tz D } (f i σ') H2)
    (hd : ∀ H2, Ex H H2 → ∀ σ', W n σ' → Go tz D σ' H2) : Go (tSeq (tFor wi g tu) tz) D σ H := fun H' e =>
  h H' e _ fun J H2 e2 ⟨Y, wk, hy⟩ => for_it (D := { D with nx := tz D }) wk (fun i σ' H3 => Ex H2 H3 ∧ W i σ') ⟨Ex.refl H2, h0⟩ (fun _ _ _ _ p => p.1)
    (fun i x σ' H3 H4 hi p y => hy i σ' H3 x H4 hi p.1 y _ fun H5 e5 => by
      have z := hs H3 ((e.trans e2).trans p.1) i σ' hi p.2 H5 e5
      have : ∀ σ3 H6, (Ex H3 H6 ∧ W (i + 1) σ3) → (Ex H2 H6 ∧ W (i + 1) σ3) := fun σ3 H6 w => ⟨p.1.trans w.1, w.2⟩
      exact hs H2 (e.trans e2) i σ' hi p.2 H5 (p.1.trans e5))
    (fun σ' H3 p => hd H2 (e.trans e2) σ' p.2 H3 p.1)
/-- a comprehension: which turns give, and what -/
theorem el_lcF {wi : TI} {n : Nat} {f : Nat → L2.St → L2.St} {vs : List Nat} (c : Nat → Bool) (w : Nat → V) (h : EvF wi g σ H n f) (hn : n ≤ 50000) (hw : ∀ i, i < n → wipe (f i (wipe σ vs)) vs = wipe σ vs)
    (ht : ∀ H2, Ex H H2 → ∀ i, i < n → EvT t (f i (wipe σ vs)) H2 (c i)) (he : ∀ H2, Ex H H2 → ∀ i, i < n → c i = true → Ev te (f i (wipe σ vs)) H2 (w i)) : EvL (tLc wi g t te vs) σ H (given n c w) := fun H1 e Q q =>
  h H1 e _ fun J H2 e2 ⟨Y, wk, hy⟩ => fun Dl hD => lc_it wk (Cw H2 c w Dl) ⟨hD, Ex.new hD, upd_same⟩ (fun _ _ _ p => p.2.1)
    (fun i x H3 H4 hi p y => hy i (wipe σ vs) H3 x H4 hi p.2.1 y _ fun H5 e5 => ⟨hw i hi, cw_turn (te := te) (t := t) (f := c) (v := w) (H := H2) (H' := H5) (Dl := Dl) (i := i) ⟨p.1, p.2.1.trans e5, e5 _ _ p.2.2⟩ (by omega) (ht H2 (e.trans e2) i hi) (he H2 (e.trans e2) i hi)⟩)
    (fun H' p => q Dl H' (fresh_back e2 p.1) (e2.trans p.2.1) p.2.2)
theorem et_yes : EvT tYes σ H true := fun H1 e Q q => q H1 (Ex.refl H1)
end
end RG
namespace RG
open PySem PySem.Spec PyProof.Rows L2 Evl RS
section
variable {K : PySem.W.Frag} {σ : L2.St} {H : Hp} {ta tb te tx : TE} {t u : TT} {x y z v : V} {D : Ends} {tu tw tz : TS} {g : TG}
/-- a, b = a new list, another one -/
theorem g_parLL {i j : Nat} {xs ys : List V} (h1 : EvL ta σ H xs) (h2 : EvL tb σ H ys)
    (k : ∀ p q H1 H2, H p = none → Ex H H1 → H1 p = some (.lst xs) → H1 q = none → Ex H1 H2 → H2 q = some (.lst ys) → Go tz D ((σ.set i (some (.ref p))).set j (some (.ref q))) H2) : Go (tSeq (tPar i j (tCons ta (tCons tb tNil))) tz) D σ H := fun H' e =>
  h1 H' e _ fun p H1 np e1 hp => h2 H1 (e.trans e1) _ fun q H2 nq e2 hq => ⟨_, _, rfl, (k p q H1 H2 (fresh_back e np) (e.trans e1) hp nq e2 hq).at⟩
/-- a for over range(n), by a word that may speak of the heap -/
theorem g_forR {ta : TA} {j : Nat} {n : Int} (h : EvA ta σ H [.int n]) (hn : 0 ≤ n ∧ n ≤ 100000) (W : Nat → L2.St → Hp → Prop) (h0 : ∀ H1, Ex H H1 → W 0 σ H1)
    (hs : ∀ (i : Nat) σ' H', (i : Int) < n → W i σ' H' → Go tu { D with nx := W (i + 1), ct := W (i + 1), bk := tz D } (σ'.set j (some (.int (i : Int)))) H') (hd : ∀ σ' H', W n.toNat σ' H' → Go tz D σ' H') : Go (tSeq (tFor (iRng1 ta) (gName j) tu) tz) D σ H := fun H' e =>
  q_forR1 (fun H1 e1 Q q => h H1 (e.trans e1) Q q) hn W (fun H1 e1 => h0 H1 (e.trans e1)) (fun i σ' H1 hi w => (hs i σ' H1 hi w).at) (fun σ' H1 w => (hd σ' H1 w).at)
/-- xs.append((a, b, ..)) -/
theorem g_appU {l : Addr} {xs ys : List V} (hl : H l = some (.lst xs)) (ha : Ev ta σ H (.ref l)) (h : EvU te σ H ys) (hz : xs.length < 100000) (k : ∀ p H1, H p = none → Ex H H1 → H1 p = some (.tup ys) → Go tz D σ (upd H1 l (.lst (xs ++ [.ref p])))) :
    Go (tSeq (tDrop (tBM K "list" rAppend ta (tCons te tNil))) tz) D σ H := fun H' e =>
  q_appU (e l _ hl) (ha.mono e) (EvU.mono e h) hz fun p H1 np e1 hp => (k p H1 (fresh_back e np) (e.trans e1) hp).at
theorem g_app {l : Addr} {xs : List V} (hl : H l = some (.lst xs)) (ha : Ev ta σ H (.ref l)) (h : Ev te σ H v) (hz : xs.length < 100000) (k : ∀ H1, Ex H H1 → Go tz D σ (upd H1 l (.lst (xs ++ [v])))) :
    Go (tSeq (tDrop (tBM K "list" rAppend ta (tCons te tNil))) tz) D σ H := fun H' e =>
  q_app (e l _ hl) (ha.mono e) (h.mono e) hz fun H1 e1 => (k H1 (e.trans e1)).at
end
/-! ### lists -/
theorem atI_mod {ns : List Int} {x m : Int} (hm : m = (ns.length : Int)) (h0 : 0 < m) : ∃ v, atI (ns.map V.int) (x % m) = some (.int v) ∧ v ∈ ns := by
  have h1 := Int.emod_nonneg x (show m ≠ 0 by omega)
  have h2 := Int.emod_lt_of_pos x h0
  have hj : (x % m).toNat < ns.length := by omega
  refine ⟨ns[(x % m).toNat], ?_, List.getElem_mem _⟩
  have z : atI (ns.map V.int) (((x % m).toNat : Nat) : Int) = some (V.int ns[(x % m).toNat]) := atI_nat (by simp [hj])
  have e : (((x % m).toNat : Nat) : Int) = x % m := by omega
  generalize ns[(x % m).toNat] = y at *
  rw [e] at z
  exact z
theorem cut_take {xs : List V} {n : Nat} : cutV xs none (some (n : Int)) = xs.take n := by
  unfold cutV
  rw [HT.sIx_none, HT.sIx_nat]
  simp [List.take_eq_take_iff]
theorem cut_mid {xs : List V} {a b : Nat} : cutV xs (some (a : Int)) (some (b : Int)) = (xs.drop (min a xs.length)).take (min b xs.length - min a xs.length) := by
  unfold cutV
  rw [HT.sIx_nat, HT.sIx_nat]
theorem cut_drop {xs : List V} {a : Nat} : cutV xs (some (a : Int)) none = xs.drop a := by
  unfold cutV
  rw [HT.sIx_nat, HT.sIx_none]
  by_cases h : a ≤ xs.length
  · rw [Nat.min_eq_left h, List.take_of_length_le (by rw [List.length_drop]; omega)]
  · rw [Nat.min_eq_right (by omega), List.drop_of_length_le (Nat.le_refl xs.length), List.drop_of_length_le (show xs.length ≤ a by omega)]
    simp
theorem cut_sub {xs : List V} {lo hi : Option Int} {x : V} (h : x ∈ cutV xs lo hi) : x ∈ xs := by
  unfold cutV at h
  exact List.mem_of_mem_drop (List.mem_of_mem_take h)
theorem sum_abs : ∀ (ns : List Int) (B : Nat), (∀ z ∈ ns, z.natAbs ≤ B) → ns.sum.natAbs ≤ ns.length * B
  | [], B, _ => by simp
  | a :: r, B, h => by
    have h1 := sum_abs r B fun z hz => h z (List.mem_cons_of_mem _ hz)
    have h2 := h a List.mem_cons_self
    rw [List.sum_cons, List.length_cons, Nat.add_mul, Nat.one_mul]
    have := Int.natAbs_add_le a r.sum
    omega
theorem lv_sum {ns : List Int} {a : Nat} (h : ∀ z ∈ ns, Lv a z) (hl : ns.length ≤ 1000) : Lv (a + 1) ns.sum := by
  unfold Lv
  have h1 := sum_abs ns (2 ^ (8000 * a)) fun z hz => Nat.le_of_lt (h z hz)
  have h2 : ns.length * 2 ^ (8000 * a) ≤ 1000 * 2 ^ (8000 * a) := Nat.mul_le_mul_right _ hl
  have h3 : 2 ^ (8000 * (a + 1)) = 2 ^ 8000 * 2 ^ (8000 * a) := by rw [Nat.mul_add, Nat.pow_add, Nat.mul_comm]
  have h4 : 1024 * 2 ^ (8000 * a) ≤ 2 ^ 8000 * 2 ^ (8000 * a) := Nat.mul_le_mul_right _ (show 2 ^ 10 ≤ 2 ^ 8000 from Nat.pow_le_pow_right (by omega) (by omega))
  have h5 : 0 < 2 ^ (8000 * a) := Nat.pow_pos (by omega)
  rw [h3]
  generalize 2 ^ (8000 * a) = x at *
  generalize 2 ^ 8000 * x = y at *
  omega
theorem lv_bits {i : Int} (h : Builtin.Int.intBits i ≤ 1048576) : Lv 132 i := by
  unfold Lv
  have h1 : i.natAbs < 2 ^ 1048576 := by
    by_cases z : i = 0
    · subst z; exact Nat.pow_pos (by omega)
    · have h2 : i.natAbs.log2 + 1 ≤ 1048576 := by
        unfold Builtin.Int.intBits at h
        split at h
        · rename_i q
          exact absurd (by simpa using q) z
        · exact h
      exact (Nat.log2_lt (by omega)).mp (by omega)
  exact Nat.lt_of_lt_of_le h1 (Nat.pow_le_pow_right (by omega) (by omega))
/-- three in a row out of a list written three times -/
theorem three_of {xs : List V} {b : Nat} (h : b + 3 ≤ xs.length) : ∃ x y z, cutV xs (some (b : Int)) (some ((b : Int) + 3)) = [x, y, z] ∧ x ∈ xs ∧ y ∈ xs ∧ z ∈ xs := by
  have e : ((b : Int) + 3) = ((b + 3 : Nat) : Int) := by omega
  rw [e, cut_mid, Nat.min_eq_left (show b ≤ xs.length by omega), Nat.min_eq_left h]
  have e2 : b + 3 - b = 3 := by omega
  rw [e2]
  obtain ⟨l, hl⟩ : ∃ l, l = (xs.drop b).take 3 := ⟨_, rfl⟩
  have hlen : l.length = 3 := by rw [hl, List.length_take, List.length_drop]; omega
  have hm : ∀ x ∈ l, x ∈ xs := fun x hx => by rw [hl] at hx; exact List.mem_of_mem_drop (List.mem_of_mem_take hx)
  rw [← hl]
  match l, hlen, hm with
  | [x, y, z], _, hm => exact ⟨x, y, z, rfl, hm x (by simp), hm y (by simp), hm z (by simp)⟩
theorem in_rep {xs : List V} {n : Nat} {x : V} (h : x ∈ (List.replicate n xs).flatten) : x ∈ xs := by
  obtain ⟨l, hl, hx⟩ := List.mem_flatten.mp h
  rw [List.mem_replicate] at hl
  rw [← hl.2]; exact hx
theorem rep_len {xs : List V} {n : Nat} : (List.replicate n xs).flatten.length = n * xs.length := by simp
/-! ### rings -/
theorem lv_140 {p : Int} (h0 : 0 ≤ p) (h : p < 2 ^ 140) : Lv 1 p := by
  unfold Lv
  refine Nat.lt_of_lt_of_le (show p.natAbs < 2 ^ 140 by omega) (Nat.pow_le_pow_right (by omega) (by omega))
/-- the greatest rings that the laws make -/
def PB : Int := 60000000000000000000000000000000000000000
theorem PB_lt : PB < 2 ^ 140 := by decide

structure Good (P S M : Int) : Prop where
  r : Ring P S
  b : P ≤ PB
  m1 : 1 ≤ M
  m2 : M ≤ top P S
def RingsAt (H : Hp) (xs : List V) : Prop := ∀ i, i < xs.length → ∃ a P S M, xs[i]? = some (.ref a) ∧ H a = some (.tup [.int P, .int S, .int M]) ∧ Good P S M
theorem Good.lp {P S M : Int} (h : Good P S M) : Lv 1 P := by
  unfold Lv
  have := h.r.p
  have := h.b
  have := PB_lt
  exact Nat.lt_of_lt_of_le (show P.natAbs < 2 ^ 140 by omega) (Nat.pow_le_pow_right (by omega) (by omega))
theorem Good.ls {P S M : Int} (h : Good P S M) : Lv 1 S := h.r.ls h.lp
theorem lv_140p {P : Int} (h1 : 1 ≤ P) (h : P ≤ PB) : Lv 1 (P + 1) := by
  have := PB_lt
  have e : (2 : Int) ^ 141 = 2 * 2 ^ 140 := by decide
  have h3 : (P + 1).natAbs < 2 ^ 141 := by omega
  exact Nat.lt_of_lt_of_le h3 (Nat.pow_le_pow_right (by omega) (by omega))
theorem Good.lm {P S M : Int} (h : Good P S M) : Lv 1 M := lv_le (lv_top h.r h.lp) (by have := h.m1; omega) h.m2
end RG
namespace RG
open PySem PySem.Spec PyProof.Rows L2 Evl RS
/-! ### some value with a property -/
def EvP (te : TE) (σ : L2.St) (H : Hp) (R : V → Hp → Prop) : Prop := ∀ H1, Ex H H1 → ∀ Q : VK, (∀ v H2, Ex H1 H2 → R v H2 → Q v H2) → te σ H1 Q
/-- tuples stand at vs -/
def TupsAt (H : Hp) (vs : List V) (pss : List (List V)) : Prop := vs.length = pss.length ∧ ∀ (i : Nat) (ps : List V), pss[i]? = some ps → ∃ a : Addr, vs[i]? = some (V.ref a) ∧ H a = some (.tup ps)
theorem TupsAt.ex {H H' : Hp} {vs : List V} {pss : List (List V)} (h : TupsAt H vs pss) (e : Ex H H') : TupsAt H' vs pss := ⟨h.1, fun i ps hi => let ⟨a, h1, h2⟩ := h.2 i ps hi; ⟨a, h1, e a _ h2⟩⟩
def EvAT (ta : TA) (σ : L2.St) (H : Hp) (pss : List (List V)) : Prop := ∀ H1, Ex H H1 → ∀ Q : List V → Hp → Prop, (∀ vs H2, Ex H1 H2 → TupsAt H2 vs pss → Q vs H2) → ta σ H1 Q
section
variable {K : PySem.W.Frag} {σ : L2.St} {H : Hp} {ta tb te tx : TE} {t u : TT} {x y z v : V} {D : Ends} {tu tw tz : TS} {g : TG}
theorem eat_nil : EvAT tNil σ H [] := fun H1 e Q q => q [] H1 (Ex.refl H1) ⟨rfl, fun i ps h => by simp at h⟩
theorem eat_cons {tr : TA} {ps : List V} {pss : List (List V)} (h : EvU te σ H ps) (hr : EvAT tr σ H pss) : EvAT (tCons te tr) σ H (ps :: pss) := fun H1 e Q q =>
  h H1 e _ fun p H2 np e2 hp => hr H2 (e.trans e2) _ fun vs H3 e3 h3 => q (.ref p :: vs) H3 (e2.trans e3) ⟨by rw [List.length_cons, List.length_cons, h3.1], fun i qs hi => by
    cases i with
    | zero =>
      have : ps = qs := by simpa using hi
      subst this
      exact ⟨p, rfl, e3 p _ hp⟩
    | succ i =>
      obtain ⟨a, h4, h5⟩ := h3.2 i qs (by simpa using hi)
      exact ⟨a, by simpa using h4, h5⟩⟩
/-- x = [(a, b), ..] -/
theorem g_asgLT {i : Nat} {ta : TA} {pss : List (List V)} (h : EvAT ta σ H pss) (hl : pss.length ≤ 100000) (k : ∀ p vs H1, H p = none → Ex H H1 → H1 p = some (.lst vs) → TupsAt H1 vs pss → Go tz D (σ.set i (some (.ref p))) H1) :
    Go (tSeq (tAsg (tLst ta) (gName i)) tz) D σ H := fun H' e =>
  h H' e _ fun vs H1 e1 h1 => ⟨sz_of (by rw [h1.1]; exact hl), fun p hp => (k p vs (upd H1 p (.lst vs)) (fresh_back (e.trans e1) hp) ((e.trans e1).trans (Ex.new hp)) upd_same (h1.ex (Ex.new hp))).at⟩
/-- a for over a list of pairs -/
theorem ef_tups2 {p : Addr} {vs : List V} {ps : List (V × V)} {j k : Nat} (h : Ev te σ H (.ref p)) (hs : SqL K H p vs) (hf : TupsAt H vs (ps.map fun x => [x.1, x.2])) :
    EvF (iList K te) (gTup K 2 (gCons (gName j) (gCons (gName k) gNil))) σ H ps.length fun i σ' => (σ'.set j (ps[i]?.map (·.1))).set k (ps[i]?.map (·.2)) := fun H1 e R r =>
  h H1 e _ fun H2 e2 => ⟨p, rfl, ⟨vs, ex_l (e.trans e2) hs⟩, r _ H2 e2 ⟨_, (show vs.length = ps.length by rw [hf.1, List.length_map]) ▸ walk_list.mono (fun H' e' => ex_l ((e.trans e2).trans e') hs) (fun _ _ _ _ _ _ y => y), fun i σ' H' x H'' hi e' y Q q => by
    obtain ⟨rfl, y2⟩ := y
    have hi' : ps[i]? = some ps[i] := List.getElem?_eq_getElem hi
    obtain ⟨a, h1, h2⟩ := hf.2 i [ps[i].1, ps[i].2] (by rw [List.getElem?_map, hi']; rfl)
    rw [h1] at y2
    cases y2
    refine ⟨a, _, rfl, st_of (((e.trans e2).trans e') a _ h2), rfl, _, _, rfl, _, _, rfl, rfl, ?_⟩
    have z : Q ((σ'.set j (ps[i]?.map (·.1))).set k (ps[i]?.map (·.2))) H'' := q H'' (Ex.refl _)
    rw [hi'] at z
    exact z⟩⟩
/-- a for over something that is made on the way -/
theorem g_forP {R : V → Hp → Prop} (h : EvP te σ H R) (k : ∀ v H2, Ex H H2 → R v H2 → Go (tSeq (tFor (iEnum K (tCons (tC v) tNil)) g tu) tz) D σ H2) : Go (tSeq (tFor (iEnum K (tCons te tNil)) g tu) tz) D σ H := fun H' e =>
  h H' e _ fun v H2 e2 hv => (k v H2 (e.trans e2) hv).at
theorem g_asgP {i : Nat} {R : V → Hp → Prop} (h : EvP te σ H R) (k : ∀ v H2, Ex H H2 → R v H2 → Go tz D (σ.set i (some v)) H2) : Go (tSeq (tAsg te (gName i)) tz) D σ H := fun H' e =>
  h H' e _ fun v H2 e2 hv => (k v H2 (e.trans e2) hv).at
theorem g_unt3c {i j k : Nat} {a b c : V} {p : Addr} (h : Ev te σ H (.ref p)) (hp : H p = some (.tup [a, b, c])) (q : Go tz D (((σ.set i (some a)).set j (some b)).set k (some c)) H) : Go (tSeq (tAsg te (gTup K 3 (gCons (gName i) (gCons (gName j) (gCons (gName k) gNil))))) tz) D σ H := g_unt3 h (st_of hp) q
end
theorem ne_same {a b : V} (h : a = b) : (!decide (a = b)) = false := by rw [decide_eq_true h]; rfl
theorem eq_same {a b : V} (h : a = b) : decide (a = b) = true := decide_eq_true h
/-! ### counts as lengths -/
theorem given_len_sum (c : Nat → Bool) (w : Nat → V) : ∀ n, ((given n c w).length : Int) = sumN (fun i => if c i = true then 1 else 0) n
  | 0 => rfl
  | n + 1 => by
    have ih := given_len_sum c w n
    cases h : c n with
    | true => rw [given_yes h, List.length_append]; simp only [sumN, h, if_true, ← ih]; simp
    | false => rw [given_no h]; simp only [sumN, h, ← ih]; simp
theorem inCnt_len {p s b e : Int} {n : Nat} (c : Nat → Bool) (w : Nat → V) (hbe : b ≤ e + 1) (hc : ∀ i, i < n → c i = (decide (b ≤ (i : Int) * s % p) && decide ((i : Int) * s % p ≤ e))) : cnt p s n e - cnt p s n (b - 1) = ((given n c w).length : Int) := by
  rw [given_len_sum]
  unfold RS.cnt
  rw [← sumN_sub]
  refine sumN_congr fun i hi => ?_
  rw [hc i hi]
  unfold hit
  generalize (i : Int) * s % p = x
  by_cases h1 : b ≤ x <;> by_cases h2 : x ≤ e <;> simp [h1, h2] <;> omega
/-- of step 1 the marks stand one behind another -/
theorem cnt_one {p x : Int} (hx : 0 ≤ x) : ∀ {n : Nat}, (n : Int) ≤ p → cnt p 1 n x = min (n : Int) (x + 1)
  | 0, _ => by
    show (0 : Int) = _
    omega
  | n + 1, h => by
    have ih := cnt_one (p := p) hx (n := n) (by omega)
    show cnt p 1 n x + hit p 1 x n = _
    rw [ih]
    unfold hit
    rw [Int.mul_one, Int.emod_eq_of_lt (by omega) (by omega)]
    split <;> omega
theorem G_one (p : Int) : G p 1 = 1 := by unfold G; simp
theorem top_one (p : Int) : top p 1 = p := by unfold top; rw [G_one]; omega
end RG
namespace RG
open PySem PySem.Spec PyProof.Rows L2 Evl RS
/-- one of two readings -/
theorem pe_orR {X : Cx} {e : Expr} {t1 t2 : TE} (h1 : PE X e t1) (h2 : PE X e t2) : PE X e (fun σ H Q => t1 σ H Q ∨ t2 σ H Q) := ⟨fun pins s σ H Q I h => by
  rcases h with h | h
  · exact h1.run pins s σ H Q I h
  · exact h2.run pins s σ H Q I h⟩
section
variable {K : PySem.W.Frag} {σ : L2.St} {H : Hp} {ta tb te tx : TE} {t u : TT} {x y z v : V} {D : Ends} {tu tw tz : TS} {g : TG}
theorem g_par3 {i j l : Nat} {ta : TA} (h : EvA ta σ H [v, x, y]) (k : Go tz D (((σ.set i (some v)).set j (some x)).set l (some y)) H) : Go (tSeq (tPar3 i j l ta) tz) D σ H := fun H' e =>
  h H' e _ fun H1 e1 => ⟨v, x, y, rfl, k H1 (e.trans e1)⟩
/-- an attribute -/
theorem ev_fld {a C dx : Addr} {fs : List (Str × V)} {f : Str} (ha : Ev ta σ H (.ref a)) (h : H a = some (.ins C dx fs)) (c : Cls K C) (n : NoAttr K C f) (l : fs.lookup f = some v) : Ev (tFld K ta f) σ H v := fun H1 e Q q =>
  ha H1 e _ fun H2 e2 => ⟨a, C, dx, fs, v, rfl, (e.trans e2) a _ h, c, n, l, q H2 e2⟩
/-- a new instance with one attribute -/
def spIni (C : Addr) (f : Str) : Sp := fun vs H Q _ => ∃ (p dx : Addr) (x : V), vs = [.ref p, x] ∧ H p = some (.ins C dx []) ∧ Q .non (upd H p (.ins C dx [(f, x)]))
theorem ev_make {C : Addr} {f : Str} {ta : TA} {E : XK} (h : EvA ta σ H [v]) : ∀ H1, Ex H H1 → ∀ Q : VK, (∀ (x : Addr) H2, H1 x = none → Ex H1 H2 → (∃ dx, H2 x = some (.ins C dx [(f, v)])) → Q (.ref x) H2) → tMake C (spIni C f) [] E ta σ H1 Q := fun H1 e Q q =>
  h H1 e _ fun H2 e2 x dx nx ndx ne => ⟨x, dx, v, rfl, upd_same, rfl, q x _ (fresh_back e2 nx) (e2.trans fun b o hb => by
    rw [upd_ne (ne_of_none hb nx), upd_ne (ne_of_none hb nx), upd_ne (ne_of_none hb ndx)]
    exact hb) ⟨dx, upd_same⟩⟩
theorem ini_body {C : Addr} {f : Str} {p dx : Addr} {x : V} {Q : VK} (c : Cls K C) (n : NoAttr K C f) (h : H p = some (.ins C dx [])) (k : Q .non (upd H p (.ins C dx [(f, x)]))) :
    (tSeq (sFld K (tVar 0) (tVar 1) f) tNext) { nx := fun _ H' => Q .non H', rt := Q } [some (.ref p), some x] H :=
  ⟨x, rfl, .ref p, rfl, p, C, dx, [], rfl, h, c, n, by decide, k⟩
/-- a method's call by values -/
theorem ev_meth {C : Addr} {m : Str} {sp : Sp} {E : XK} {a dx : Addr} {fs : List (Str × V)} {ta' : TA} {vs : List V} (ha : Ev ta σ H (.ref a)) (h : H a = some (.ins C dx fs)) (l : fs.lookup m = none) (hv : EvA ta' σ H vs) (hs : SpV sp (.ref a :: vs) H z) : Ev (tMeth C m sp [] E ta ta') σ H z := fun H1 e Q q =>
  ha H1 e _ fun H2 e2 => ⟨a, dx, fs, rfl, (e.trans e2) a _ h, l, hv H2 (e.trans e2) _ fun H3 e3 => by
    show sp (.ref a :: (vs ++ [])) H3 Q E
    rw [List.append_nil]
    exact hs H3 ((e.trans e2).trans e3) Q (fun H4 e4 => q H4 ((e2.trans e3).trans e4)) E⟩
theorem ev_orl {t1 t2 : TE} (h : Ev t1 σ H v) : Ev (fun σ H Q => t1 σ H Q ∨ t2 σ H Q) σ H v := fun H1 e Q q => .inl (h H1 e Q q)
theorem ev_orr {t1 t2 : TE} (h : Ev t2 σ H v) : Ev (fun σ H Q => t1 σ H Q ∨ t2 σ H Q) σ H v := fun H1 e Q q => .inr (h H1 e Q q)
/-- over reversed(a list of triples) -/
theorem ef_rev3 {ta : TA} {p : Addr} {vs : List V} {ps : List (Int × Int × Int)} {i j k : Nat} (h : EvA ta σ H [.ref p]) (hs : SqL K H p vs) (hf : TupsAt H vs (ps.map fun x => [V.int x.1, V.int x.2.1, V.int x.2.2])) :
    EvF (iRev K ta) (gTup K 3 (gCons (gName i) (gCons (gName j) (gCons (gName k) gNil)))) σ H ps.length fun n σ' => ((σ'.set i (ps[ps.length - 1 - n]?.map fun x => V.int x.1)).set j (ps[ps.length - 1 - n]?.map fun x => V.int x.2.1)).set k (ps[ps.length - 1 - n]?.map fun x => V.int x.2.2) := fun H1 e R r =>
  have hl : vs.length = ps.length := by rw [hf.1, List.length_map]
  h H1 e _ fun H2 e2 => ⟨p, vs, rfl, ex_l (e.trans e2) hs, r _ H2 e2 ⟨fun i H x H' => H' = H ∧ vs[vs.length - 1 - i]? = some x, by
    have w := walk_rev (K := K) (a := p) (xs := vs)
    rw [hl] at w ⊢
    exact w.mono (fun H' e' => ex_l ((e.trans e2).trans e') hs) (fun _ _ _ _ _ _ y => y), fun n σ' H' x H'' hi e' y Q q => by
    obtain ⟨rfl, y2⟩ := y
    rw [hl] at y2
    have hi2 : ps.length - 1 - n < ps.length := by omega
    have hi' : ps[ps.length - 1 - n]? = some ps[ps.length - 1 - n] := List.getElem?_eq_getElem hi2
    obtain ⟨a, h1, h2⟩ := hf.2 (ps.length - 1 - n) _ (by rw [List.getElem?_map, hi']; rfl)
    rw [h1] at y2
    cases y2
    refine ⟨a, _, rfl, st_of (((e.trans e2).trans e') a _ h2), rfl, _, _, rfl, _, _, rfl, _, _, rfl, rfl, ?_⟩
    have z : Q (((σ'.set i (ps[ps.length - 1 - n]?.map fun x => V.int x.1)).set j (ps[ps.length - 1 - n]?.map fun x => V.int x.2.1)).set k (ps[ps.length - 1 - n]?.map fun x => V.int x.2.2)) H'' := q H'' (Ex.refl _)
    rw [hi'] at z
    exact z⟩⟩
end
theorem TupsAt.upd {H : Hp} {vs ys : List V} {pss : List (List V)} {d : Addr} {o : HO} (h : TupsAt H vs pss) (hd : H d = some (.lst ys)) : TupsAt (upd H d o) vs pss := ⟨h.1, fun i ps hi => by
  obtain ⟨a, h1, h2⟩ := h.2 i ps hi
  exact ⟨a, h1, by rw [upd_ne (ne_of h2 hd (by intro z; cases z))]; exact h2⟩⟩
theorem TupsAt.snoc {H : Hp} {vs : List V} {pss : List (List V)} {q : Addr} {ps : List V} (h : TupsAt H vs pss) (hq : H q = some (.tup ps)) : TupsAt H (vs ++ [.ref q]) (pss ++ [ps]) := ⟨by rw [List.length_append, List.length_append, h.1]; rfl, fun i qs hi => by
  by_cases hl : i < pss.length
  · rw [List.getElem?_append_left hl] at hi
    obtain ⟨a, h1, h2⟩ := h.2 i qs hi
    exact ⟨a, by rw [List.getElem?_append_left (by rw [h.1]; exact hl)]; exact h1, h2⟩
  · have hi2 : i = pss.length := by
      have := (List.getElem?_eq_some_iff.mp hi).1
      rw [List.length_append] at this
      simp at this
      omega
    subst hi2
    have e : ps = qs := by simpa using hi
    subst e
    exact ⟨q, by rw [← h.1]; simp, hq⟩⟩
/-- two to a power below a number of this size -/
theorem pow_small {n : Nat} {P : Int} (h : (2 : Int) ^ n ≤ P) (l : Lv 1 P) : n < 8000 := by
  unfold Lv at l
  rcases Nat.lt_or_ge n 8000 with q | q
  · exact q
  · have h1 : 2 ^ (8000 * 1) ≤ 2 ^ n := Nat.pow_le_pow_right (by omega) (by omega)
    have h2 : ((2 ^ n : Nat) : Int) = (2 : Int) ^ n := by rw [Int.natCast_pow]; rfl
    omega
/-! ### what answers show -/
def inCnt (p s : Int) (n : Nat) (b e : Int) : Int := RS.cnt p s n e - RS.cnt p s n (b - 1)
def showsF (p s b e m : Int) : Bool := decide (0 ≤ m) && (decide (b ≤ m * s % p) && decide (m * s % p ≤ e)) && decide (inCnt p s m.toNat b e = 0)
def showsN (p s b e c : Int) : Bool := decide (1 ≤ c) && decide (p % c = 0) && decide (s % c = 0) && decide (e / c * c < b)
/-- no mark ahead is there -/
theorem inCnt_none {p s b e : Int} {n : Nat} (hbe : b ≤ e + 1) : inCnt p s n b e = 0 ↔ ∀ k : Nat, k < n → ¬ RS.In p s b e k := by
  have key : inCnt p s n b e = sumN (fun k => if RS.In p s b e k then 1 else 0) n := by
    unfold inCnt RS.cnt
    rw [← sumN_sub]
    refine sumN_congr fun k _ => ?_
    unfold hit
    by_cases q : RS.In p s b e k
    · obtain ⟨h1, h2⟩ := id q
      rw [if_pos q, if_pos h2, if_neg (by omega)]
      rfl
    · rw [if_neg q]
      unfold RS.In at q
      split <;> split <;> omega
  have nn : ∀ k : Nat, k < n → (0 : Int) ≤ if RS.In p s b e k then 1 else 0 := fun k _ => by split <;> omega
  rw [key]
  constructor
  · intro h k hk q
    have := sumN_ge (f := fun k : Nat => if RS.In p s b e k then (1 : Int) else 0) (n := n) (k := k) nn hk
    have this : (if RS.In p s b e k then (1 : Int) else 0) ≤ _ := this
    rw [if_pos q] at this
    omega
  · intro h
    rw [sumN_congr (g := fun _ => 0), sumN_const]
    · simp
    · intro k hk
      rw [if_neg (h k hk)]
theorem showsF_iff {p s b e m : Int} (hbe : b ≤ e) : showsF p s b e m = true ↔ FirstIn p s b e m := by
  unfold showsF
  rw [Bool.and_eq_true, Bool.and_eq_true, Bool.and_eq_true, decide_eq_true_iff, decide_eq_true_iff, decide_eq_true_iff, decide_eq_true_iff]
  constructor
  · rintro ⟨⟨h0, h1, h2⟩, h3⟩
    refine ⟨h0, ⟨h1, h2⟩, fun j j0 jm q => ?_⟩
    have := (inCnt_none (show b ≤ e + 1 by omega)).mp h3 j.toNat (by omega)
    have e1 : ((j.toNat : Nat) : Int) = j := by omega
    rw [e1] at this
    exact this q
  · rintro ⟨h0, ⟨h1, h2⟩, h3⟩
    exact ⟨⟨h0, h1, h2⟩, (inCnt_none (by omega)).mpr fun k hk => h3 k (by omega) (by omega)⟩
end RG
namespace RG
open PySem PySem.Spec PyProof.Rows L2 Evl RS
/-! ### own classes -/
/-- what isinstance asks of an instance of C -/
structure InsI (K : PySem.W.Frag) (C : Addr) : Prop where
  cl : Cls K C
  ha : PySem.W.findIn K (.ref C) "__class__" = some (some (.builtin "object.__class__"))
  hn : PySem.W.specialIn K (.builtin "object.__class__") "__get__" = some (some (.builtin "getset_descriptor.__get__"))
  htk : PySem.W.takesIn K (.builtin "object.__class__") = some true
  hm : PySem.W.mroIn K C (.type "object") = some true
theorem kit_own {K : PySem.W.Frag} {C D : Addr} {b : Bool} (i : PySem.W.isClsIn K D = true) (t : PySem.W.typeIn K (.ref D) = some (.type "type")) (s : PySem.W.subIn K (.ref C) (.ref D) = some b) (r : PySem.W.subIn K (.ref D) (.ref D) = some true) : PySem.W.kitOne K (.ref C) (.ref D) = some b := by
  unfold PySem.W.kitOne
  by_cases e : (Value.ref C == Value.ref D) = true
  · rw [if_pos e]
    have : C = D := by have := eq_of_beq e; injection this
    subst this
    rw [s] at r
    exact r.symm
  · rw [if_neg e]
    have e2 : ((PySem.W.clsIn K D).isSome && PySem.W.typeIn K (.ref D) == some (.type "type")) = true := by
      have h2' : (PySem.W.clsIn K D).isSome = true := i
      rw [h2', t] <;> rfl
    show (if ((PySem.W.clsIn K D).isSome && PySem.W.typeIn K (.ref D) == some (.type "type")) = true then PySem.W.subIn K (.ref C) (.ref D) else none) = some b
    rw [if_pos e2]
    exact s
section
variable {K : PySem.W.Frag} {σ : L2.St} {H : Hp} {ta tb te tx : TE} {t u : TT} {x y z v : V} {D : Ends} {tu tw tz : TS} {g : TG}
theorem ev_isIns {a C B dx : Addr} {fs : List (Str × V)} {b : Bool} (ha : Ev ta σ H (.ref a)) (h : H a = some (.ins C dx fs)) (i : InsI K C) (k : PySem.W.kitOne K (.ref C) (.ref B) = some b) : Ev (tCB (rIsi K) (tCons ta (tCons (tC (.ref B)) tNil))) σ H (.bl b) := fun H1 e Q q =>
  ha H1 e _ fun H2 e2 => ⟨.ref a, .ref B, .ref C, .ref B, b, rfl, .own B, .base (.ins ((e.trans e2) a _ h) i.cl i.ha i.hn i.htk i.hm), k, q H2 e2⟩
theorem lk_ne {m f : Str} {v : V} (h : m ≠ f) : List.lookup m [(f, v)] = none := by
  have q : (m == f) = false := by simpa using h
  simp [List.lookup, q]
theorem lk_eq {f : Str} {v : V} : List.lookup f [(f, v)] = some v := by simp [List.lookup]
/-- C(v).m(..) -/
theorem ev_methMk {C : Addr} {f m : Str} {sp : Sp} {E E' : XK} {ta ta' : TA} {vs : List V} {i : Int} (h : EvA ta σ H [.int i]) (hm : m ≠ f) (hv : EvA ta' σ H vs) (hs : ∀ a H', Ex H H' → (∃ dx, H' a = some (.ins C dx [(f, .int i)])) → SpV sp (.ref a :: vs) H' z) :
    Ev (tMeth C m sp [] E (tMake C (spIni C f) [] E' ta) ta') σ H z := fun H1 e Q q =>
  ev_make h H1 e _ fun a H2 na e2 ⟨dx, ha⟩ => ⟨a, dx, _, rfl, ha, lk_ne hm, hv H2 (e.trans e2) _ fun H3 e3 => by
    show sp (.ref a :: (vs ++ [])) H3 Q E
    rw [List.append_nil]
    exact hs a H3 ((e.trans e2).trans e3) ⟨dx, e3 a _ ha⟩ H3 (Ex.refl H3) Q (fun H4 e4 => q H4 ((e2.trans e3).trans e4)) E⟩
theorem given_rep (n : Nat) : given n (fun _ => true) (fun _ => V.bl true) = (List.replicate n true).map V.bl := by
  induction n with
  | zero => rfl
  | succ n ih => rw [given_yes rfl, ih, List.replicate_succ', List.map_append]; rfl
theorem all_rep (n : Nat) : (List.replicate n true).all id = true := by
  induction n with
  | zero => rfl
  | succ n ih => rw [List.replicate_succ, List.all_cons, ih]; rfl
theorem ev_allT {n : Nat} (h : EvL te σ H (given n (fun _ => true) (fun _ => V.bl true))) : Ev (tCB (rAll K) (tCons te tNil)) σ H (.bl true) := fun H1 e Q q =>
  h H1 e _ fun p H2 _ e2 hp => ⟨p, List.replicate n true, rfl, sq_of (by rw [hp, given_rep]), by rw [all_rep]; exact q H2 e2⟩
theorem ev_allB {bs : List Bool} (h : EvL te σ H (bs.map V.bl)) : Ev (tCB (rAll K) (tCons te tNil)) σ H (.bl (bs.all id)) := fun H1 e Q q =>
  h H1 e _ fun p H2 _ e2 hp => ⟨p, bs, rfl, sq_of hp, q H2 e2⟩
/-- a for over a list of pairs that is written in its head -/
theorem ef_disp2 {ta : TA} {ps : List (V × V)} {j k : Nat} (h : EvAT ta σ H (ps.map fun x => [x.1, x.2])) (hl : ps.length ≤ 100000) :
    EvF (iList K (tLst ta)) (gTup K 2 (gCons (gName j) (gCons (gName k) gNil))) σ H ps.length fun i σ' => (σ'.set j (ps[i]?.map (·.1))).set k (ps[i]?.map (·.2)) := fun H1 e R r =>
  h H1 e _ fun vs H2 e2 hT => ⟨sz_of (by rw [hT.1, List.length_map]; exact hl), fun p np => by
    have hT' := hT.ex (Ex.new (o := .lst vs) np)
    have e3 : Ex H2 (upd H2 p (.lst vs)) := Ex.new np
    refine ⟨p, rfl, ⟨vs, sq_of upd_same⟩, r _ (upd H2 p (.lst vs)) (e2.trans e3) ⟨fun i H x H' => H' = H ∧ vs[i]? = some x, by
      have w := walk_list (K := K) (a := p) (xs := vs)
      have hl2 : vs.length = ps.length := by rw [hT.1, List.length_map]
      rw [hl2] at w
      exact w.mono (fun H' e' => sq_of (e' p _ upd_same)) (fun _ _ _ _ _ _ y => y), fun i σ' H' x H'' hi e' y Q q => ?_⟩⟩
    obtain ⟨rfl, y2⟩ := y
    have hi' : ps[i]? = some ps[i] := List.getElem?_eq_getElem hi
    obtain ⟨a, h1, h2⟩ := hT'.2 i [ps[i].1, ps[i].2] (by rw [List.getElem?_map, hi']; rfl)
    rw [h1] at y2
    cases y2
    refine ⟨a, _, rfl, st_of (e' a _ h2), rfl, _, _, rfl, _, _, rfl, rfl, ?_⟩
    have z : Q ((σ'.set j (ps[i]?.map (·.1))).set k (ps[i]?.map (·.2))) H'' := q H'' (Ex.refl _)
    rw [hi'] at z
    exact z⟩
end
theorem lv_e61 {i : Int} (h : i.natAbs ≤ 10 ^ 61) : Lv 1 i := by
  unfold Lv
  exact Nat.lt_of_le_of_lt h (Nat.lt_of_lt_of_le (show 10 ^ 61 < 2 ^ 300 by decide) (Nat.pow_le_pow_right (by omega) (by omega)))
end RG
namespace RG
open PySem PySem.Spec PyProof.Rows L2 Evl RS
/-! ### all but one object stands as it stood -/
def Xl (l : Addr) (H H' : Hp) : Prop := ∀ b o, b ≠ l → H b = some o → H' b = some o
theorem Xl.of {l : Addr} {H H' : Hp} (e : Ex H H') : Xl l H H' := fun b o _ h => e b o h
theorem Xl.trans {l : Addr} {H H' H'' : Hp} (a : Xl l H H') (b : Xl l H' H'') : Xl l H H'' := fun c o n h => b c o n (a c o n h)
theorem Xl.upd {l : Addr} {H : Hp} {o : HO} : Xl l H (upd H l o) := fun b o' n h => by rw [upd_ne n]; exact h
theorem Xl.ex {l : Addr} {H H1 H' : Hp} (x : Xl l H1 H') (e : Ex H H1) (n : H l = none) : Ex H H' := fun b o h => x b o (ne_of_none h n) (e b o h)
theorem TupsAt.xl {l : Addr} {H H' : Hp} {vs ys : List V} {pss : List (List V)} (h : TupsAt H vs pss) (hl : H l = some (.lst ys)) (x : Xl l H H') : TupsAt H' vs pss := ⟨h.1, fun i ps hi => by
  obtain ⟨a, h1, h2⟩ := h.2 i ps hi
  exact ⟨a, h1, x a _ (ne_of h2 hl (by intro z; cases z)) h2⟩⟩
theorem TupsAt.take {H : Hp} {vs : List V} {pss : List (List V)} (n : Nat) (h : TupsAt H vs pss) : TupsAt H (vs.take n) (pss.take n) := ⟨by rw [List.length_take, List.length_take, h.1], fun i ps hi => by
  rw [List.getElem?_take] at hi ⊢
  by_cases q : i < n
  · rw [if_pos q] at hi ⊢
    exact h.2 i ps hi
  · rw [if_neg q] at hi
    cases hi⟩
/-- arguments that make something on the way -/
def EvAR (ta : TA) (σ : L2.St) (H : Hp) (R : List V → Hp → Prop) : Prop := ∀ H1, Ex H H1 → ∀ Q : List V → Hp → Prop, (∀ vs H2, Ex H1 H2 → R vs H2 → Q vs H2) → ta σ H1 Q
section
variable {K : PySem.W.Frag} {σ : L2.St} {H : Hp} {ta tb te tx : TE} {t u : TT} {x y z v : V} {D : Ends} {tu tw tz : TS} {g : TG} {d d' : PyData}
theorem ear_of {tr : TA} {vs : List V} (h : EvA tr σ H vs) : EvAR tr σ H (fun us _ => us = vs) := fun H1 e Q q => h H1 e _ fun H2 e2 => q _ H2 e2 rfl
theorem ear_cons {tr : TA} {R : List V → Hp → Prop} (h : Ev te σ H v) (hr : EvAR tr σ H R) : EvAR (tCons te tr) σ H (fun vs H2 => ∃ r, vs = v :: r ∧ R r H2) := fun H1 e Q q =>
  h H1 e _ fun H2 e2 => hr H2 (e.trans e2) _ fun vs H3 e3 hR => q _ H3 (e2.trans e3) ⟨vs, rfl, hR⟩
theorem ear_lst {xs : List V} (h : EvL te σ H xs) : EvAR (tCons te tNil) σ H (fun vs H2 => ∃ p, vs = [.ref p] ∧ H2 p = some (.lst xs)) := fun H1 e Q q =>
  h H1 e _ fun p H2 _ e2 hp => q _ H2 e2 ⟨p, rfl, hp⟩
theorem ev_callR {sp : Sp} {E : XK} {tr : TA} {R : List V → Hp → Prop} (h : EvAR tr σ H R) (hs : ∀ vs H2, Ex H H2 → R vs H2 → SpV sp vs H2 v) : Ev (tCall sp [] E tr) σ H v := fun H1 e Q q =>
  h H1 e _ fun vs H2 e2 hR => by
    show sp (vs ++ []) H2 Q E
    rw [List.append_nil]
    exact hs vs H2 (e.trans e2) hR H2 (Ex.refl H2) Q (fun H3 e3 => q H3 (e2.trans e3)) E
/-- an attribute of something that is made on the way -/
theorem ev_fldP {f : Str} {R : V → Hp → Prop} (h : EvP te σ H R) (k : ∀ v H2, R v H2 → ∃ a C dx fs, v = .ref a ∧ H2 a = some (.ins C dx fs) ∧ Cls K C ∧ NoAttr K C f ∧ fs.lookup f = some z) : Ev (tFld K te f) σ H z := fun H1 e Q q =>
  h H1 e _ fun v H2 e2 hR => by
    obtain ⟨a, C, dx, fs, rfl, h1, h2, h3, h4⟩ := k v H2 hR
    exact ⟨a, C, dx, fs, z, rfl, h1, h2, h3, h4, q H2 e2⟩
/-! ### data at any depth, compared -/
theorem dp_ints {H : Hp} : ∀ ns : List Int, DpAll K H (ns.map V.int) (ns.map PyData.int)
  | [] => .nil
  | n :: ns => .cons (.int n) (dp_ints ns)
theorem ed_ints {ns : List Int} (h : EvL te σ H (ns.map V.int)) : EvD K te σ H (.list (ns.map PyData.int)) := fun H1 e Q q =>
  h H1 e _ fun p H2 _ e2 hp => q _ H2 e2 (.lst (sq_of hp) (dp_ints ns))
theorem ev_neD (h1 : EvD K ta σ H d) (h2 : EvD K tb σ H d') (s1 : SeqAt.shaped d = true) (s2 : SeqAt.shaped d' = true) : Ev (tOp (rNeD K) ta tb) σ H (.bl (!PyData.eqv d d')) := fun H1 e Q q =>
  h1 H1 e _ fun v H2 e2 hv => h2 H2 (e.trans e2) _ fun v' H3 e3 hv' => ⟨d, d', dp_ex e3 hv, hv', s1, s2, q H3 (e2.trans e3)⟩
theorem ev_eqD (h1 : EvD K ta σ H d) (h2 : EvD K tb σ H d') (s1 : SeqAt.shaped d = true) (s2 : SeqAt.shaped d' = true) : Ev (tOp (rEqD K) ta tb) σ H (.bl (PyData.eqv d d')) := fun H1 e Q q =>
  h1 H1 e _ fun v H2 e2 hv => h2 H2 (e.trans e2) _ fun v' H3 e3 hv' => ⟨d, d', dp_ex e3 hv, hv', s1, s2, q H3 (e2.trans e3)⟩
theorem ed_if {b : Bool} (h : EvT t σ H b) (h1 : b = true → EvD K ta σ H d) (h2 : b = false → EvD K tb σ H d) : EvD K (tIf t ta tb) σ H d := fun H1 e Q q => h H1 e _ fun H2 e2 => by
  cases b with
  | true =>
    show ta σ H2 Q
    exact h1 rfl H2 (e.trans e2) Q fun v H3 e3 => q v H3 (e2.trans e3)
  | false =>
    show tb σ H2 Q
    exact h2 rfl H2 (e.trans e2) Q fun v H3 e3 => q v H3 (e2.trans e3)
theorem rv_notB {a b : Bool} : RV rNotB (.bl a) (.bl b) H (.bl (!decide (a = b))) := fun H1 _ _ q => ⟨a, b, rfl, rfl, q H1 (Ex.refl H1)⟩
theorem rv_isB {a b : Bool} : RV rIsB (.bl a) (.bl b) H (.bl (decide (a = b))) := fun H1 _ _ q => ⟨a, b, rfl, rfl, q H1 (Ex.refl H1)⟩
/-- a for over a list written in its head, one object alone is changed -/
theorem g_forXl {xs : List V} {tl : TE} {j : Nat} {l : Addr} {o : HO} (h : EvL tl σ H xs) (hl : H l = some o) (W : Nat → L2.St → Hp → Prop) (h0 : ∀ H1, Ex H H1 → W 0 σ H1)
    (hs : ∀ B, Ex H B → ∀ i x σ' H', xs[i]? = some x → Xl l B H' → W i σ' H' → Go tu { D with nx := fun σ2 H2 => Xl l B H2 ∧ W (i + 1) σ2 H2, ct := fun σ2 H2 => Xl l B H2 ∧ W (i + 1) σ2 H2, bk := tz D } (σ'.set j (some x)) H')
    (hd : ∀ σ' H', Xl l H H' → W xs.length σ' H' → Go tz D σ' H') : Go (tSeq (tFor (iList K tl) (gName j) tu) tz) D σ H := fun H' e => by
  have hl' := e l _ hl
  refine h H' e _ fun p B np e1 hp => ?_
  have npl : p ≠ l := fun z => by rw [z, hl'] at np; cases np
  refine ⟨p, rfl, ⟨xs, sq_of hp⟩, ?_⟩
  refine for_it (D := { D with nx := tz D }) (G := fun H2 => SqL K H2 p xs) walk_list (fun i σ' H2 => Xl l B H2 ∧ W i σ' H2) ⟨Xl.of (Ex.refl B), h0 B (e.trans e1)⟩ (fun i σ' H2 _ w => sq_of (w.1 p _ npl hp)) (fun i x σ' H2 H3 hi w y => ?_) (fun σ' H2 w => (hd σ' H2 ((Xl.of (e.trans e1)).trans w.1) w.2).at)
  obtain ⟨rfl, y2⟩ := y
  exact (hs B (e.trans e1) i x σ' _ y2 w.1 w.2).at
end
/-! ### the first of what is given -/
theorem given_none {c : Nat → Bool} {w : Nat → V} : ∀ {n : Nat}, (∀ i, i < n → c i = false) → given n c w = []
  | 0, _ => rfl
  | n + 1, h => by rw [given_no (h n (by omega))]; exact given_none fun i hi => h i (by omega)
theorem given_first {c : Nat → Bool} {w : Nat → V} {k : Nat} (h : ∀ i, i < k → c i = false) (hk : c k = true) : ∀ {n : Nat}, k < n → (given n c w).take 1 = [w k]
  | 0, hn => absurd hn (by omega)
  | n + 1, hn => by
    by_cases q : k < n
    · have ih := given_first h hk (w := w) q
      have hne : 1 ≤ (given n c w).length := by
        cases z : given n c w with
        | nil => rw [z] at ih; cases ih
        | cons a b => simp
      cases z : c n with
      | true => rw [given_yes z, List.take_append_of_le_length hne]; exact ih
      | false => rw [given_no z]; exact ih
    · have : k = n := by omega
      subst this
      rw [given_yes hk, given_none h]
      rfl
end RG
namespace RG
open PySem PySem.Spec PyProof.Rows L2 Evl RS
/-! ### great powers -/
def CPowB (i j : Int) : Prop := 0 ≤ j ∧ (Builtin.Int.intBits i : Int) * j ≤ 2 ^ 27
theorem op_powB {X : Cx} : OpR X (binaryOp .Pow) (rI CPowB fun i j => .int (i ^ j.toNat)) := opI fun _ _ _ _ _ _ _ hc q => pow_int hc.1 hc.2 q
theorem powB_ok {i j : Int} {n : Nat} (h : i.natAbs < 2 ^ n) (hn : 0 < n) (hj : 0 ≤ j) (hb : (n : Int) * j ≤ 134217728) : CPowB i j := by
  refine ⟨hj, ?_⟩
  have b : Builtin.Int.intBits i ≤ n := by
    unfold Builtin.Int.intBits
    have := PySem.Flt.log2_lt_of hn h
    split <;> omega
  have h1 : (Builtin.Int.intBits i : Int) * j ≤ (n : Int) * j := Int.mul_le_mul_of_nonneg_right (by omega) hj
  have e : (2 : Int) ^ 27 = 134217728 := by decide
  rw [e]
  omega
section
variable {K : PySem.W.Frag} {σ : L2.St} {H : Hp} {ta tb te tx : TE} {t u : TT} {x y z v : V} {D : Ends} {tu tw tz : TS} {g : TG}
/-- xs.index(y), of ints -/
theorem ev_indexI {p : Addr} {ns : List Int} {y : Int} {j : Nat} (ha : Ev ta σ H (.ref p)) (hs : SqL K H p (ns.map V.int)) (hb : Ev tb σ H (.int y)) (hj : ns[j]? = some y) (hn : ∀ (m : Nat) (z : Int), m < j → ns[m]? = some z → z ≠ y) : Ev (tBM K "list" (rIndex K) ta (tCons tb tNil)) σ H (.int (j : Nat)) := fun H1 e Q q =>
  ha H1 e _ fun H2 e2 => ⟨.inl ⟨rfl, _, ex_l (e.trans e2) hs⟩, hb H2 (e.trans e2) _ fun H3 e3 => ⟨p, ns.map V.int, .int y, j, .int y, rfl, rfl, ex_l ((e.trans e2).trans e3) hs, rfl, by rw [List.all_eq_true]; intro w hw; obtain ⟨i, _, rfl⟩ := List.mem_map.mp hw; rfl, by rw [List.getElem?_map, hj]; rfl, by show (y == y) = true; simp, fun m z' hm hz => by
    rw [List.getElem?_map] at hz
    cases q : ns[m]? with
    | none => rw [q] at hz; cases hz
    | some w =>
      rw [q] at hz
      cases hz
      have := hn m w hm q
      show (w == y) = false
      simpa using this, q H3 (e2.trans e3)⟩⟩
/-- a, b = sorted(ints), y -/
theorem g_parS {i j : Nat} {ns : List Int} {q : Addr} (P : List Int → Prop) (hP : ∀ ns' : List Int, ns'.Perm ns → ns'.Pairwise (· ≤ ·) → P ns') (h1 : Ev ta σ H (.ref q)) (hs : SqL K H q (ns.map V.int)) (h2 : Ev tb σ H v)
    (k : ∀ ns' p H1, P ns' → H p = none → Ex H H1 → H1 p = some (.lst (ns'.map V.int)) → Go tz D ((σ.set i (some (.ref p))).set j (some v)) H1) : Go (tSeq (tPar i j (tCons (tCB (rSortedI K) (tCons ta tNil)) (tCons tb tNil))) tz) D σ H := fun H' e =>
  h1 H' e _ fun H1 e1 => ⟨q, ns, rfl, ex_l (e.trans e1) hs, fun ns' p a b np => by
    have e2 : Ex H1 (upd H1 p (.lst (ns'.map V.int))) := Ex.new np
    exact h2 _ ((e.trans e1).trans e2) _ fun H2 e3 => ⟨_, _, rfl, (k ns' p H2 (hP ns' a b) (fresh_back (e.trans e1) np) (((e.trans e1).trans e2).trans e3) (e3 p _ upd_same)).at⟩⟩
/-- a for over a tuple of pairs that is written in its head -/
theorem ef_tdisp2 {ta : TA} {ps : List (V × V)} {j k : Nat} (h : EvAT ta σ H (ps.map fun x => [x.1, x.2])) (hl : ps.length ≤ 100000) :
    EvF (iTup K (tTup ta)) (gTup K 2 (gCons (gName j) (gCons (gName k) gNil))) σ H ps.length fun i σ' => (σ'.set j (ps[i]?.map (·.1))).set k (ps[i]?.map (·.2)) := fun H1 e R r =>
  h H1 e _ fun vs H2 e2 hT => ⟨sz_of (by rw [hT.1, List.length_map]; exact hl), fun p np => by
    have hT' := hT.ex (Ex.new (o := .tup vs) np)
    have e3 : Ex H2 (upd H2 p (.tup vs)) := Ex.new np
    refine ⟨p, rfl, ⟨vs, st_of upd_same⟩, r _ (upd H2 p (.tup vs)) (e2.trans e3) ⟨fun i H x H' => H' = H ∧ vs[i]? = some x, by
      have w := walk_tup (K := K) (a := p) (xs := vs)
      have hl2 : vs.length = ps.length := by rw [hT.1, List.length_map]
      rw [hl2] at w
      exact w.mono (fun H' e' => st_of (e' p _ upd_same)) (fun _ _ _ _ _ _ y => y), fun i σ' H' x H'' hi e' y Q q => ?_⟩⟩
    obtain ⟨rfl, y2⟩ := y
    have hi' : ps[i]? = some ps[i] := List.getElem?_eq_getElem hi
    obtain ⟨a, h1, h2⟩ := hT'.2 i [ps[i].1, ps[i].2] (by rw [List.getElem?_map, hi']; rfl)
    rw [h1] at y2
    cases y2
    refine ⟨a, _, rfl, st_of (e' a _ h2), rfl, _, _, rfl, _, _, rfl, rfl, ?_⟩
    have z : Q ((σ'.set j (ps[i]?.map (·.1))).set k (ps[i]?.map (·.2))) H'' := q H'' (Ex.refl _)
    rw [hi'] at z
    exact z⟩
end
theorem given_spots (p s : Int) (m : Nat) : given m (fun _ => true) (fun i => V.int ((i : Int) * s % p)) = (spots p s m).map V.int := by
  unfold given spots
  rw [List.filter_eq_self.mpr fun _ _ => rfl, List.map_map]
  rfl
end RG
namespace RP
open PySem PySem.Spec PyProof.Rows L2 Evl RG RS
def topS (i : Nat) : Stmt := PySem.Challenge.pw_ringsteps_k09_great_however.main.body.getD i (.Pass ⟨0, 0, 0, 0⟩)
section
variable {P : Program} {w : World} {K : PySem.W.Frag} {mg : Str → Option Value} {base : Heap} {f f1 f2 f3 f4 f5 f6 f7 f8 f9 : Addr} {fd fd1 fd2 fd3 fd4 fd5 fd6 fd7 fd8 fd9 : FuncData}
/-! ### the numbers -/
abbrev s_is_number : Stmt := topS 8
theorem sc_is_number : FnScope ["thing", "least", "most"] ["thing", "least", "most"] (defScope s_is_number) := ⟨rfl, rfl, rfl, by decide +kernel, rfl, by decide +kernel, by decide +kernel⟩
def spIsNum (K : PySem.W.Frag) : Sp := fun vs H Q _ => ∃ x l m, vs = [x, .int l, m] ∧ Kn K H x ∧ (∀ i, x = .int i → ∃ j, m = .int j) ∧ ∀ H', Ex H H' → Q (.bl (numW x l m)) H'
theorem spv_isNum {K : PySem.W.Frag} {H : Hp} {x m : V} {l : Int} (h : Kn K H x) (h2 : ∀ i, x = .int i → ∃ j, m = .int j) : SpV (spIsNum K) [x, .int l, m] H (.bl (numW x l m)) :=
  fun H1 e Q q E => ⟨x, l, m, rfl, h.ex e, h2, q⟩
theorem ok_is_number (hA : Blt mg) (F : Fun K "is_number" "is_number" s_is_number f fd) : FnOk P w K mg base CX0 1 f fd ["thing", "least", "most"] (spIsNum K) := by
  refine F.ok sc_is_number (fun vs H Q E h => ?_) (fun cdv A outer s H vs Q E hr h => ?_)
  · obtain ⟨x, l, m, rfl, _⟩ := h
    rfl
  · obtain ⟨x, l, m, rfl, hx, hm, k⟩ := h
    refine ⟨_, (pss_cons (ps_ret (pe_and (pe_callB call_isi rfl hA.z_isinstance (by decide +kernel) (pa_cons (pv 0) (pa_cons (pe_bltn (v := .ty "int") (u := .type "int") rfl hA.z_int (by decide +kernel) rfl) pa_nil))) (pe_and (pe_not (pe_callB call_isi rfl hA.z_isinstance (by decide +kernel) (pa_cons (pv 0) (pa_cons (pe_bltn (v := .ty "bool") (u := .type "bool") rfl hA.z_bool (by decide +kernel) rfl) pa_nil)))) (pe_one (pe_chain op_le op_le (pv 1) (pv 0) (pv 2))))))
      pss_nil), Go.at (g_ret (v := .bl (numW x l m)) ?_ k)⟩
    have e1 : Ev (tCB (rIsi K) (tCons (tVar 0) (tCons (tC (.ty "int")) tNil))) (start ["thing", "least", "most"] [x, .int l, m]) H (.bl (isI x)) := ev_isInt (ev_var rfl) hx
    have e2 : Ev (tCB (rIsi K) (tCons (tVar 0) (tCons (tC (.ty "bool")) tNil))) (start ["thing", "least", "most"] [x, .int l, m]) H (.bl (isB x)) := ev_isBool (ev_var rfl) hx
    cases x with
    | int i =>
      obtain ⟨j, rfl⟩ := hm i rfl
      exact ev_is (ev_andV e1 fun _ => ev_andV (ev_notV e2) fun _ => ev_chainI (ev_var rfl) (ev_var rfl) (ev_var rfl)) rfl
    | bl b => exact ev_andV (b := false) e1 fun _ => ev_andV (b := false) (ev_notV e2) fun h => nomatch h
    | _ => exact ev_andV (b := false) e1 fun h => nomatch h
abbrev s_common : Stmt := topS 9
theorem sc_common : FnScope ["one", "other"] ["one", "other"] (defScope s_common) := ⟨rfl, rfl, rfl, by decide +kernel, rfl, by decide +kernel, by decide +kernel⟩
def spCommon : Sp := fun vs H Q _ => ∃ a b : Int, vs = [.int a, .int b] ∧ 0 ≤ a ∧ 0 ≤ b ∧ ∀ H', Ex H H' → Q (.int (G a b)) H'
theorem spv_common {H : Hp} {a b : Int} (h : 0 ≤ a) (h2 : 0 ≤ b) : SpV spCommon [.int a, .int b] H (.int (G a b)) := fun H1 e Q q E => ⟨a, b, rfl, h, h2, q⟩
theorem ok_common (F : Fun K "common" "common" s_common f fd) : FnOk P w K mg base CX0 1 f fd ["one", "other"] spCommon := by
  refine F.ok sc_common (fun vs H Q E h => ?_) (fun cdv A outer s H vs Q E hr h => ?_)
  · obtain ⟨a, b, rfl, _⟩ := h
    rfl
  · obtain ⟨a, b, rfl, ha, hb, k⟩ := h
    refine ⟨_, (pss_cons (ps_while PassesOwn.never (pt_cmpR op_gt (pv 1) pe_int (nomark _)) (pss_cons (ps_par (i := 0) (j := 1) (by rfl) sc_common.nd rfl rfl (by decide) rfl rfl (pa_cons (pv 1) (pa_cons (pe_op op_mod (pv 0) (pv 1)) pa_nil)) (by rfl))
      pss_nil))
      (pss_cons (ps_ret (pv 0))
      pss_nil)), Go.at ?_⟩
    refine g_while (fun σ => ∃ x y : Int, σ = [some (.int x), some (.int y)] ∧ 0 ≤ x ∧ 0 ≤ y ∧ G x y = G a b) (fun σ => match σ with | [_, some (.int y)] => y.toNat | _ => 0) ⟨a, b, rfl, ha, hb, rfl⟩ ?_
    rintro σ ⟨x, y, rfl, hx, hy, hg⟩
    refine ⟨_, et_test (ev_op (ev_var rfl) ev_c rv_I0), fun hb => ?_, fun hb => ?_⟩
    · have hy : 0 < y := of_decide_eq_true hb
      refine g_par (ea_cons (ev_var rfl) (ea_cons (ev_op (ev_var rfl) (ev_var rfl) (rv_I hy)) ea_nil)) (g_next fun H' e => ⟨e, ⟨y, x % y, rfl, by omega, Int.emod_nonneg _ (by omega), by rw [G_step x y hy, hg]⟩, ?_⟩)
      have := Int.emod_lt_of_pos x hy
      have := Int.emod_nonneg x (show y ≠ 0 by omega)
      show (x % y).toNat < y.toNat
      omega
    · have hy0 : y = 0 := by have := of_decide_eq_false hb; omega
      subst hy0
      rw [G_zero hx] at hg
      subst hg
      exact g_ret (ev_var rfl) k
abbrev s_check_ring : Stmt := topS 11
theorem sc_check_ring : FnScope ["places", "step"] ["places", "step"] (defScope s_check_ring) := ⟨rfl, rfl, rfl, by decide +kernel, rfl, by decide +kernel, by decide +kernel⟩
def spRing (K : PySem.W.Frag) (c : Cs) : Sp := fun vs H Q E => ∃ p s, vs = [p, s] ∧ Kn K H p ∧ Kn K H s ∧ Fin (ringO c p s) H Q E
theorem spx_ring {K : PySem.W.Frag} {c : Cs} {H : Hp} {p s : V} (h : Kn K H p) (h2 : Kn K H s) : SpX (spRing K c) [p, s] H (ringO c p s) := fun H1 e Q E q r => ⟨p, s, rfl, h.ex e, h2.ex e, q, r⟩
theorem ok_check_ring {c : Cs} (F : Fun K "check_ring" "check_ring" s_check_ring f fd) (G_is_number : FnOk P w K mg base CX0 1 f1 fd1 ["thing", "least", "most"] (spIsNum K)) (A_is_number : At K mg "is_number" s_is_number ["thing", "least", "most"] f1 fd1)
    (E_BadPlaces : ErrAt K mg "BadPlaces" c.cp) (E_BadStep : ErrAt K mg "BadStep" c.cs) : FnOk P w K mg base (L2.CX P w) 2 f fd ["places", "step"] (spRing K c) := by
  refine F.okX sc_check_ring (fun vs H Q E h => ?_) (fun cdv A outer s H vs Q E hr h => ?_)
  · obtain ⟨p, s, rfl, _⟩ := h
    rfl
  · obtain ⟨p, s, rfl, hp, hs, k⟩ := h
    refine ⟨_, (pss_cons (ps_if (pt_not (pt_val (pe_call G_is_number (hr.mono (by omega)) rfl A_is_number.g A_is_number.fn.kp A_is_number.b .nil pass0 (pa_cons (pv 0) (pa_cons pe_int (pa_cons (pv 0) pa_nil)))))) (pss_cons (ps_raise rfl (takes_of rfl rfl rfl rfl) (pmk_own PySem.F.excBase_ValueError E_BadPlaces.x E_BadPlaces.g E_BadPlaces.k (raises_own E_BadPlaces.b E_BadPlaces.t) rfl))
      pss_nil) pss_nil)
      (pss_cons (ps_if (pt_not (pt_val (pe_call G_is_number (hr.mono (by omega)) rfl A_is_number.g A_is_number.fn.kp A_is_number.b .nil pass0 (pa_cons (pv 1) (pa_cons pe_int (pa_cons (pe_op op_sub (pv 0) pe_int) pa_nil)))))) (pss_cons (ps_raise rfl (takes_of rfl rfl rfl rfl) (pmk_own PySem.F.excBase_ValueError E_BadStep.x E_BadStep.g E_BadStep.k (raises_own E_BadStep.b E_BadStep.t) rfl))
      pss_nil) pss_nil)
      pss_nil)), Go.at ?_⟩
    refine g_when (et_not (et_B (ev_call1 (ea_cons (ev_var rfl) (ea_cons ev_c (ea_cons (ev_var rfl) ea_nil))) (spv_isNum hp fun i e => ⟨i, e⟩)))) (fun h => ?_) (fun h => ?_)
    · refine g_raise fun H1 e => k.2 _ ?_ H1 e
      rw [numW_okP] at h
      unfold ringO
      rw [if_neg (by first | exact nf h | exact nt h)]
    · rw [numW_okP] at h
      have h' : okP p = true := by simpa using h
      obtain ⟨P, rfl, hP⟩ := okP_iff.mp h'
      refine g_when (et_not (et_B (ev_call1 (ea_cons (ev_var rfl) (ea_cons ev_c (ea_cons (ev_op (ev_var rfl) ev_c rv_I0) ea_nil))) (spv_isNum hs fun i e => ⟨_, rfl⟩)))) (fun h2 => ?_) (fun h2 => ?_)
      · refine g_raise fun H1 e => k.2 _ ?_ H1 e
        rw [numW_okIn] at h2
        unfold ringO
        rw [if_pos h']; exact if_neg (nf h2)
      · refine g_next fun H1 e => k.1 .non ?_ H1 e
        rw [numW_okIn] at h2
        unfold ringO
        rw [if_pos h']; exact if_pos (nt h2)
abbrev s_most_of : Stmt := topS 10
theorem sc_most_of : FnScope ["places", "step"] ["places", "step"] (defScope s_most_of) := ⟨rfl, rfl, rfl, by decide +kernel, rfl, by decide +kernel, by decide +kernel⟩
def spMostOf : Sp := fun vs H Q _ => ∃ p s : Int, vs = [.int p, .int s] ∧ Ring p s ∧ Lv 1 p ∧ ∀ H', Ex H H' → Q (.int (top p s)) H'
theorem spv_mostOf {H : Hp} {p s : Int} (h : Ring p s) (h2 : Lv 1 p) : SpV spMostOf [.int p, .int s] H (.int (top p s)) := fun H1 e Q q E => ⟨p, s, rfl, h, h2, q⟩
theorem ok_most_of (F : Fun K "most_of" "most_of" s_most_of f fd) (G_common : FnOk P w K mg base CX0 1 f1 fd1 ["one", "other"] spCommon) (A_common : At K mg "common" s_common ["one", "other"] f1 fd1) : FnOk P w K mg base CX0 2 f fd ["places", "step"] spMostOf := by
  refine F.ok sc_most_of (fun vs H Q E h => ?_) (fun cdv A outer s H vs Q E hr h => ?_)
  · obtain ⟨p, s, rfl, _⟩ := h
    rfl
  · obtain ⟨p, s, rfl, R, l, k⟩ := h
    have R1 := R.p
    refine ⟨_, (pss_cons (ps_ret (pe_op op_fdivW (pv 0) (pe_call G_common (hr.mono (by omega)) rfl A_common.g A_common.fn.kp A_common.b .nil pass0 (pa_cons (pv 0) (pa_cons (pv 1) pa_nil)))))
      pss_nil), Go.at (g_ret (ev_op (ev_var rfl) (ev_call1 (ea_cons (ev_var rfl) (ea_cons (ev_var rfl) ea_nil)) (spv_common (by omega) R.s0)) (rv_I (div_ok (G_pos (by omega)) (lv_G R l)))) k)⟩
abbrev s_check_marks : Stmt := topS 12
theorem sc_check_marks : FnScope ["places", "step", "marks"] ["places", "step", "marks"] (defScope s_check_marks) := ⟨rfl, rfl, rfl, by decide +kernel, rfl, by decide +kernel, by decide +kernel⟩
def spMarks (K : PySem.W.Frag) (c : Cs) : Sp := fun vs H Q E => ∃ p s m, vs = [p, s, m] ∧ Kn K H p ∧ Kn K H s ∧ Kn K H m ∧ Fin (marksO c p s m) H Q E
theorem spx_marks {K : PySem.W.Frag} {c : Cs} {H : Hp} {p s m : V} (h : Kn K H p) (h2 : Kn K H s) (h3 : Kn K H m) : SpX (spMarks K c) [p, s, m] H (marksO c p s m) := fun H1 e Q E q r => ⟨p, s, m, rfl, h.ex e, h2.ex e, h3.ex e, q, r⟩
theorem ok_check_marks {c : Cs} (F : Fun K "check_marks" "check_marks" s_check_marks f fd) (G_is_number : FnOk P w K mg base CX0 1 f1 fd1 ["thing", "least", "most"] (spIsNum K)) (A_is_number : At K mg "is_number" s_is_number ["thing", "least", "most"] f1 fd1)
    (G_most_of : FnOk P w K mg base CX0 2 f2 fd2 ["places", "step"] spMostOf) (A_most_of : At K mg "most_of" s_most_of ["places", "step"] f2 fd2) (G_check_ring : FnOk P w K mg base (L2.CX P w) 2 f3 fd3 ["places", "step"] (spRing K c)) (A_check_ring : At K mg "check_ring" s_check_ring ["places", "step"] f3 fd3)
    (E_BadMarks : ErrAt K mg "BadMarks" c.cm) : FnOk P w K mg base (L2.CX P w) 3 f fd ["places", "step", "marks"] (spMarks K c) := by
  refine F.okX sc_check_marks (fun vs H Q E h => ?_) (fun cdv A outer s H vs Q E hr h => ?_)
  · obtain ⟨p, s, m, rfl, _⟩ := h
    rfl
  · obtain ⟨p, s, m, rfl, hp, hs, hm, k⟩ := h
    refine ⟨_, (pss_cons (ps_expr (pe_call G_check_ring (hr.mono (by omega)) rfl A_check_ring.g A_check_ring.fn.kp A_check_ring.b .nil (passes_call (takes_of rfl rfl rfl rfl) (fun _ _ _ _ h => h)) (pa_cons (pv 0) (pa_cons (pv 1) pa_nil))))
      (pss_cons (ps_if (pt_not (pt_val (pe_call G_is_number (hr.mono (by omega)) rfl A_is_number.g A_is_number.fn.kp A_is_number.b .nil pass0 (pa_cons (pv 2) (pa_cons pe_int (pa_cons (pe_call G_most_of (hr.mono (by omega)) rfl A_most_of.g A_most_of.fn.kp A_most_of.b .nil pass0 (pa_cons (pv 0) (pa_cons (pv 1) pa_nil))) pa_nil)))))) (pss_cons (ps_raise rfl (takes_of rfl rfl rfl rfl) (pmk_own PySem.F.excBase_ValueError E_BadMarks.x E_BadMarks.g E_BadMarks.k (raises_own E_BadMarks.b E_BadMarks.t) rfl))
      pss_nil) pss_nil)
      pss_nil)), Go.at ?_⟩
    refine g_dropX (evx_call (ea_cons (ev_var rfl) (ea_cons (ev_var rfl) ea_nil)) (spx_ring hp hs)) (fun v hv => ?_) (fun C hC H1 e => k.2 C (by unfold marksO; rw [hC]) H1 e)
    obtain ⟨rfl, P, S, rfl, rfl, R⟩ := ringO_val hv
    have eO : marksO c (.int P) (.int S) m = if okIn m 1 (top P S) then .val .non else .err c.cm := by
      unfold marksO
      rw [hv]
      rfl
    rw [eO] at k
    refine g_when (et_not (et_B (ev_call1 (ea_cons (ev_var rfl) (ea_cons ev_c (ea_cons (ev_call1 (ea_cons (ev_var rfl) (ea_cons (ev_var rfl) ea_nil)) (spv_mostOf R hp)) ea_nil))) (spv_isNum hm fun i e => ⟨_, rfl⟩)))) (fun h => ?_) (fun h => ?_)
    · rw [numW_okIn] at h
      rw [if_neg (by first | exact nf h | exact nt h)] at k
      exact g_raise fun H1 e => k.err H1 e
    · rw [numW_okIn] at h
      rw [if_pos (by first | exact nf h | exact nt h)] at k
      exact g_next fun H1 e => k.val H1 e
abbrev s_check_stretch : Stmt := topS 13
theorem sc_check_stretch : FnScope ["places", "begin", "end"] ["places", "begin", "end"] (defScope s_check_stretch) := ⟨rfl, rfl, rfl, by decide +kernel, rfl, by decide +kernel, by decide +kernel⟩
def spStretch (K : PySem.W.Frag) (c : Cs) : Sp := fun vs H Q E => ∃ P b e, vs = [.int P, b, e] ∧ Kn K H b ∧ Kn K H e ∧ Fin (stretchO c (.int P) b e) H Q E
theorem spx_stretch {K : PySem.W.Frag} {c : Cs} {H : Hp} {P : Int} {b e : V} (h : Kn K H b) (h2 : Kn K H e) : SpX (spStretch K c) [.int P, b, e] H (stretchO c (.int P) b e) := fun H1 x Q E q r => ⟨P, b, e, rfl, h.ex x, h2.ex x, q, r⟩
theorem ok_check_stretch {c : Cs} (F : Fun K "check_stretch" "check_stretch" s_check_stretch f fd) (G_is_number : FnOk P w K mg base CX0 1 f1 fd1 ["thing", "least", "most"] (spIsNum K)) (A_is_number : At K mg "is_number" s_is_number ["thing", "least", "most"] f1 fd1)
    (E_BadPlace : ErrAt K mg "BadPlace" c.cl) : FnOk P w K mg base (L2.CX P w) 2 f fd ["places", "begin", "end"] (spStretch K c) := by
  refine F.okX sc_check_stretch (fun vs H Q E h => ?_) (fun cdv A outer s H vs Q E hr h => ?_)
  · obtain ⟨p, b, e, rfl, _⟩ := h
    rfl
  · obtain ⟨P, b, e, rfl, hb, he, k⟩ := h
    refine ⟨_, (pss_cons (ps_if (PW.pt (pw_or (pt_not (pt_val (pe_call G_is_number (hr.mono (by omega)) rfl A_is_number.g A_is_number.fn.kp A_is_number.b .nil pass0 (pa_cons (pv 1) (pa_cons pe_int (pa_cons (pe_op op_sub (pv 0) pe_int) pa_nil)))))) (pw_or (pt_not (pt_val (pe_call G_is_number (hr.mono (by omega)) rfl A_is_number.g A_is_number.fn.kp A_is_number.b .nil pass0 (pa_cons (pv 2) (pa_cons pe_int (pa_cons (pe_op op_sub (pv 0) pe_int) pa_nil)))))) (pw_or1 (pt_cmpR op_gt (pv 1) (pv 2) (nomark _)))))) (pss_cons (ps_raise rfl (takes_of rfl rfl rfl rfl) (pmk_own PySem.F.excBase_ValueError E_BadPlace.x E_BadPlace.g E_BadPlace.k (raises_own E_BadPlace.b E_BadPlace.t) rfl))
      pss_nil) pss_nil)
      pss_nil), Go.at ?_⟩
    have n1 : EvT (tNot (tB (tCall (spIsNum K) [] E0 (tCons (tVar 1) (tCons (tC (.int 0)) (tCons (tOp (rI0 fun i j => .int (i - j)) (tVar 0) (tC (.int 1))) tNil)))))) (start ["places", "begin", "end"] [.int P, b, e]) H (!numW b 0 (.int (P - 1))) := et_not (et_B (ev_call1 (ea_cons (ev_var rfl) (ea_cons ev_c (ea_cons (ev_op (ev_var rfl) ev_c rv_I0) ea_nil))) (spv_isNum hb fun i e => ⟨_, rfl⟩)))
    have n2 : EvT (tNot (tB (tCall (spIsNum K) [] E0 (tCons (tVar 2) (tCons (tC (.int 0)) (tCons (tOp (rI0 fun i j => .int (i - j)) (tVar 0) (tC (.int 1))) tNil)))))) (start ["places", "begin", "end"] [.int P, b, e]) H (!numW e 0 (.int (P - 1))) := et_not (et_B (ev_call1 (ea_cons (ev_var rfl) (ea_cons ev_c (ea_cons (ev_op (ev_var rfl) ev_c rv_I0) ea_nil))) (spv_isNum he fun i e => ⟨_, rfl⟩)))
    rw [numW_okIn] at n1 n2
    have eO : stretchO c (.int P) b e = if okIn b 0 (P - 1) && okIn e 0 (P - 1) && decide (iv b ≤ iv e) then .val .non else .err c.cl := rfl
    refine g_when (b := !(okIn b 0 (P - 1) && okIn e 0 (P - 1) && decide (iv b ≤ iv e))) ?_ (fun h => ?_) (fun h => ?_)
    · cases q1 : okIn b 0 (P - 1) with
      | false => rw [q1] at n1; exact et_or (b := false) n1 fun h => nomatch h
      | true =>
        rw [q1] at n1
        refine et_or n1 fun _ => ?_
        cases q2 : okIn e 0 (P - 1) with
        | false => rw [q2] at n2; exact et_or (b := false) n2 fun h => nomatch h
        | true =>
          rw [q2] at n2
          obtain ⟨B, rfl, _⟩ := okIn_iff.mp q1
          obtain ⟨E', rfl, _⟩ := okIn_iff.mp q2
          refine et_or n2 fun _ => et_is (et_test (ev_op (ev_var rfl) (ev_var rfl) rv_I0)) ?_
          show decide (E' < B) = !(true && true && decide (B ≤ E'))
          by_cases z : B ≤ E'
          · rw [decide_eq_true z, decide_eq_false (by omega)]; rfl
          · rw [decide_eq_false z, decide_eq_true (by omega)]; rfl
    · rw [eO, if_neg (nf h)] at k
      exact g_raise fun H1 e => k.err H1 e
    · rw [eO, if_pos (nt h)] at k
      exact g_next fun H1 e => k.val H1 e
abbrev s_quotients : Stmt := topS 14
theorem sc_quotients : FnScope ["many", "by", "times", "more", "rest", "found", "last"] ["many", "by", "times", "more"] (defScope s_quotients) := ⟨rfl, rfl, rfl, by decide +kernel, rfl, by decide +kernel, by decide +kernel⟩
def spQuot : Sp := fun vs H Q _ => ∃ (n : Nat) (m a b : Int), vs = [.int n, .int m, .int a, .int b] ∧ 0 < m ∧ 0 ≤ a ∧ Lv 1 n ∧ Lv 1 m ∧ Lv 1 a ∧ Lv 4 b ∧ ∀ H', Ex H H' → Q (.int (S n m a b)) H'
theorem spv_quot {H : Hp} {n m a b : Int} (h0 : 0 ≤ n) (h : 0 < m) (h2 : 0 ≤ a) (l1 : Lv 1 n) (l2 : Lv 1 m) (l3 : Lv 1 a) (l4 : Lv 4 b) : SpV spQuot [.int n, .int m, .int a, .int b] H (.int (S n.toNat m a b)) := fun H1 e Q q E => by
  have : ((n.toNat : Nat) : Int) = n := by omega
  exact ⟨n.toNat, m, a, b, by rw [this], h, h2, by rw [this]; exact l1, l2, l3, l4, q⟩
theorem ok_quotients (F : Fun K "quotients" "quotients" s_quotients f fd) : FnOk P w K mg base CX0 1 f fd ["many", "by", "times", "more"] spQuot := by
  refine F.ok sc_quotients (fun vs H Q E h => ?_) (fun cdv A outer s H vs Q E hr h => ?_)
  · obtain ⟨n, m, a, b, rfl, _⟩ := h
    rfl
  · obtain ⟨n, m, a, b, rfl, hm, ha, l1, l2, l3, l4, k⟩ := h
    refine ⟨_, (pss_cons (ps_set (i := 4) sc_quotients.nd rfl (Or.inl rfl) (pe_op op_mod (pv 3) (pv 1)))
      (pss_cons (ps_set (i := 5) sc_quotients.nd rfl (Or.inl rfl) (pe_op op_mulB (pv 0) (pe_op op_fdivW (pe_op op_sub (pv 3) (pv 4)) (pv 1))))
      (pss_cons (ps_set (i := 3) sc_quotients.nd rfl (Or.inl rfl) (pv 4))
      (pss_cons (ps_while PassesOwn.never (pt_cmpR op_gt (pv 0) pe_int (nomark _)) (pss_cons (ps_aug (i := 5) sc_quotients.nd rfl (Or.inl rfl) (pe_op op_add (pe_op op_mulB (pe_op op_fdivW (pe_op op_mulB (pv 0) (pe_op op_sub (pv 0) pe_int)) pe_int) (pe_op op_fdivW (pv 2) (pv 1))) (pe_op op_mulB (pv 0) (pe_op op_fdivW (pv 3) (pv 1)))) ip_add)
      (pss_cons (ps_par (i := 2) (j := 3) (by rfl) sc_quotients.nd rfl rfl (by decide) rfl rfl (pa_cons (pe_op op_mod (pv 2) (pv 1)) (pa_cons (pe_op op_mod (pv 3) (pv 1)) pa_nil)) (by rfl))
      (pss_cons (ps_set (i := 6) sc_quotients.nd rfl (Or.inl rfl) (pe_op op_add (pe_op op_mulB (pv 2) (pv 0)) (pv 3)))
      (pss_cons (ps_if (pt_cmpR op_lt (pv 6) (pv 1) (nomark _)) (pss_cons (ps_ret (pv 5))
      pss_nil) pss_nil)
      (pss_cons (ps_asg (pe_tup (pa_cons (pe_op op_fdivW (pv 6) (pv 1)) (pa_cons (pe_op op_mod (pv 6) (pv 1)) (pa_cons (pv 2) (pa_cons (pv 1) pa_nil))))) (pg_tup rfl (pgs_cons (pg_name (i := 0) sc_quotients.nd rfl (Or.inl rfl)) (pgs_cons (pg_name (i := 3) sc_quotients.nd rfl (Or.inl rfl)) (pgs_cons (pg_name (i := 1) sc_quotients.nd rfl (Or.inl rfl)) (pgs_cons (pg_name (i := 2) sc_quotients.nd rfl (Or.inl rfl)) pgs_nil))))))
      pss_nil))))))
      (pss_cons (ps_ret (pv 5))
      pss_nil))))), Go.at ?_⟩
    refine g_asg (ev_op (ev_var rfl) (ev_var rfl) (rv_I hm)) ?_
    refine g_asg (ev_op (ev_var rfl) (ev_op (ev_op (ev_var rfl) (ev_var rfl) rv_I0) (ev_var rfl) (rv_I (div_ok hm l2))) (rv_I (mul_ok l1 (lv_div (lv_sub l4 (lv_mod l2 hm)) hm) (by decide) (by decide)))) ?_
    refine g_asg (ev_var rfl) ?_
    have d : (b - b % m) / m = b / m := by
      have h := Int.emod_add_mul_ediv b m
      have e : b - b % m = m * (b / m) := by omega
      rw [e]; exact Int.mul_ediv_cancel_left _ (by omega)
    refine g_while (fun σ => ∃ (n' : Nat) (m' a' b' r t : Int) (l : Option V), σ = [some (.int n'), some (.int m'), some (.int a'), some (.int b'), some (.int r), some (.int t), l] ∧ 0 < m' ∧ 0 ≤ a' ∧ 0 ≤ b' ∧ Lv 1 n' ∧ Lv 1 m' ∧ Lv 1 a' ∧ Lv 1 b' ∧ t + S n' m' a' b' = S n m a b)
      (fun σ => match σ with | some (.int n') :: some (.int m') :: _ => m'.toNat | _ => 0) ⟨n, m, a, b % m, b % m, n * ((b - b % m) / m), none, rfl, hm, ha, Int.emod_nonneg _ (by omega), l1, l2, l3, lv_mod l2 hm, by rw [d, S_redb n m a b hm]⟩ ?_
    rintro σ ⟨n', m', a', b', r, t, l, rfl, hm', ha', hb', ln, lm, la, lb, hT⟩
    refine ⟨_, et_test (ev_op (ev_var rfl) ev_c rv_I0), fun h => ?_, fun h => ?_⟩
    · have hn : 0 < (n' : Int) := of_decide_eq_true h
      refine g_aug (f := fun i j => i + j) rfl (ev_op (ev_op (ev_op (ev_op (ev_var rfl) (ev_op (ev_var rfl) ev_c rv_I0) (rv_I (mul_ok ln (lv_sub ln (lv_small (by decide))) (by decide) (by decide)))) ev_c (rv_I (div_ok (by decide) (lv_small (by decide)))))
        (ev_op (ev_var rfl) (ev_var rfl) (rv_I (div_ok hm' lm))) (rv_I (mul_ok (lv_div (lv_mul ln (lv_sub ln (lv_small (by decide)))) (by decide)) (lv_div la hm') (by decide) (by decide))))
        (ev_op (ev_var rfl) (ev_op (ev_var rfl) (ev_var rfl) (rv_I (div_ok hm' lm))) (rv_I (mul_ok ln (lv_div lb hm') (by decide) (by decide)))) rv_I0) ?_
      refine g_par (ea_cons (ev_op (ev_var rfl) (ev_var rfl) (rv_I hm')) (ea_cons (ev_op (ev_var rfl) (ev_var rfl) (rv_I hm')) ea_nil)) ?_
      refine g_asg (ev_op (ev_op (ev_var rfl) (ev_var rfl) (rv_I (mul_ok (lv_mod lm hm') ln (by decide) (by decide)))) (ev_var rfl) rv_I0) ?_
      have red := S_red n' m' a' b' hm'
      have a0 := Int.emod_nonneg a' (show m' ≠ 0 by omega)
      have a1 := Int.emod_lt_of_pos a' hm'
      have b0 := Int.emod_nonneg b' (show m' ≠ 0 by omega)
      have b1 := Int.emod_lt_of_pos b' hm'
      have x0 : 0 ≤ a' % m' * (n' : Int) := Int.mul_nonneg a0 (by omega)
      refine g_when (et_test (ev_op (ev_var rfl) (ev_var rfl) rv_I0)) (fun h => ?_) (fun h => ?_)
      · have h1 : a' % m' * (n' : Int) + b' % m' < m' := of_decide_eq_true h
        have z := S_zero n' m' (a' % m') (b' % m') hm' a0 b0 h1
        rw [z] at red
        refine g_ret (v := .int (S n m a b)) (ev_is (ev_var rfl) ?_) k
        rw [← hT, red]
        simp
      · have h1 : m' ≤ a' % m' * (n' : Int) + b' % m' := by have := of_decide_eq_false h; omega
        have ap : 0 < a' % m' := by
          rcases Int.lt_or_le 0 (a' % m') with q | q
          · exact q
          · have : a' % m' = 0 := by omega
            rw [this, Int.zero_mul] at h1
            omega
        have fl := S_flip n' m' (a' % m') (b' % m') ap a1 b0 b1
        have q0 : 0 ≤ (a' % m' * (n' : Int) + b' % m') / m' := Int.ediv_nonneg (by omega) (by omega)
        have qn : (a' % m' * (n' : Int) + b' % m') / m' ≤ n' := by
          have : (a' % m' * (n' : Int) + b' % m') / m' < n' + 1 := by
            refine Int.ediv_lt_of_lt_mul hm' ?_
            have h2 : a' % m' * (n' : Int) ≤ (m' - 1) * n' := Int.mul_le_mul_of_nonneg_right (by omega) (by omega)
            have h3 : (m' - 1) * (n' : Int) = m' * n' - n' := by rw [Int.sub_mul, Int.one_mul]
            have h4 : ((n' : Int) + 1) * m' = m' * n' + m' := by rw [Int.add_mul, Int.one_mul, Int.mul_comm]
            omega
          omega
        obtain ⟨N, hN⟩ : ∃ N : Nat, (a' % m' * (n' : Int) + b' % m') / m' = N := ⟨((a' % m' * (n' : Int) + b' % m') / m').toNat, by omega⟩
        have eN : ((a' % m' * (n' : Int) + b' % m') / m').toNat = N := by omega
        rw [eN] at fl
        refine g_asg4 (eu_tup (ea_cons (ev_is (ev_op (ev_var rfl) (ev_var rfl) (rv_I (div_ok hm' lm))) (congrArg V.int hN)) (ea_cons (ev_op (ev_var rfl) (ev_var rfl) (rv_I hm')) (ea_cons (ev_var rfl) (ea_cons (ev_var rfl) ea_nil)))) (by show 4 ≤ 100000; decide)) (g_next fun H' e => ⟨e, ⟨N, a' % m', m', (a' % m' * (n' : Int) + b' % m') % m', r, t + (n' * (n' - 1) / 2 * (a' / m') + n' * (b' / m')), some (.int (a' % m' * (n' : Int) + b' % m')), rfl, ap, by omega, Int.emod_nonneg _ (by omega), lv_le ln (by omega) (by omega), lv_mod lm hm', lm, lv_mod lm hm', ?_⟩, ?_⟩)
        · rw [← fl, ← hT, red]
          omega
        · show (a' % m').toNat < m'.toNat
          omega
    · have hn : n' = 0 := by have := of_decide_eq_false h; omega
      subst hn
      refine g_ret (v := .int (S n m a b)) (ev_is (ev_var rfl) ?_) k
      rw [← hT]
      simp [S, sumN]
abbrev s_marks_to : Stmt := topS 15
theorem sc_marks_to : FnScope ["places", "step", "marks", "place"] ["places", "step", "marks", "place"] (defScope s_marks_to) := ⟨rfl, rfl, rfl, by decide +kernel, rfl, by decide +kernel, by decide +kernel⟩
def spMarksTo : Sp := fun vs H Q _ => ∃ p s n x : Int, vs = [.int p, .int s, .int n, .int x] ∧ Ring p s ∧ 0 ≤ n ∧ 0 ≤ x ∧ x < p ∧ Lv 1 p ∧ Lv 1 n ∧ ∀ H', Ex H H' → Q (.int (cnt p s n.toNat x)) H'
theorem spv_marksTo {H : Hp} {p s n x : Int} (R : Ring p s) (h0 : 0 ≤ n) (h : 0 ≤ x) (h2 : x < p) (l1 : Lv 1 p) (l2 : Lv 1 n) : SpV spMarksTo [.int p, .int s, .int n, .int x] H (.int (cnt p s n.toNat x)) := fun H1 e Q q E => ⟨p, s, n, x, rfl, R, h0, h, h2, l1, l2, q⟩
theorem ok_marks_to (F : Fun K "marks_to" "marks_to" s_marks_to f fd) (G_quotients : FnOk P w K mg base CX0 1 f1 fd1 ["many", "by", "times", "more"] spQuot) (A_quotients : At K mg "quotients" s_quotients ["many", "by", "times", "more"] f1 fd1) : FnOk P w K mg base CX0 2 f fd ["places", "step", "marks", "place"] spMarksTo := by
  refine F.ok sc_marks_to (fun vs H Q E h => ?_) (fun cdv A outer s H vs Q E hr h => ?_)
  · obtain ⟨p, s, n, x, rfl, _⟩ := h
    rfl
  · obtain ⟨p, s, n, x, rfl, R, hn, hx, hxp, lp, ln, k⟩ := h
    have lx : Lv 1 x := lv_le lp hx (by omega)
    refine ⟨_, (pss_cons (ps_ret (pe_op op_sub (pe_call G_quotients (hr.mono (by omega)) rfl A_quotients.g A_quotients.fn.kp A_quotients.b .nil pass0 (pa_cons (pv 2) (pa_cons (pv 0) (pa_cons (pv 1) (pa_cons pe_int pa_nil))))) (pe_call G_quotients (hr.mono (by omega)) rfl A_quotients.g A_quotients.fn.kp A_quotients.b .nil pass0 (pa_cons (pv 2) (pa_cons (pv 0) (pa_cons (pv 1) (pa_cons (pe_op op_sub (pe_un un_neg (pv 3)) pe_int) pa_nil)))))))
      pss_nil), Go.at (g_ret (v := .int (cnt p s n.toNat x)) (ev_is (ev_op (ev_call1 (ea_cons (ev_var rfl) (ea_cons (ev_var rfl) (ea_cons (ev_var rfl) (ea_cons ev_c ea_nil)))) (spv_quot hn (by omega) R.s0 ln lp (R.ls lp) (lv_small (by decide) |> (lv_mono · (by decide)))))
      (ev_call1 (ea_cons (ev_var rfl) (ea_cons (ev_var rfl) (ea_cons (ev_var rfl) (ea_cons (ev_op (ev_un (ev_var rfl) ru_neg) ev_c rv_I0) ea_nil)))) (spv_quot hn (by omega) R.s0 ln lp (R.ls lp) (lv_mono (lv_sub (lv_neg lx) (lv_small (by decide))) (by decide)))) rv_I0) ?_) k)⟩
    rw [cnt_S p s n.toNat x hx hxp]
abbrev s_count : Stmt := topS 25
theorem sc_count : FnScope ["places", "step", "marks", "begin", "end", "before"] ["places", "step", "marks", "begin", "end"] (defScope s_count) := ⟨rfl, rfl, rfl, by decide +kernel, rfl, by decide +kernel, by decide +kernel⟩
def countO (c : Cs) (p s m b e : V) : Out := match marksO c p s m with
  | .err C => .err C
  | .val _ => (match stretchO c p b e with
    | .err C => .err C
    | .val _ => .val (.int (inCnt (iv p) (iv s) (iv m).toNat (iv b) (iv e))))
def spCount (K : PySem.W.Frag) (c : Cs) : Sp := fun vs H Q E => ∃ p s m b e, vs = [p, s, m, b, e] ∧ Kn K H p ∧ Kn K H s ∧ Kn K H m ∧ Kn K H b ∧ Kn K H e ∧ Fin (countO c p s m b e) H Q E
theorem spx_count {K : PySem.W.Frag} {c : Cs} {H : Hp} {p s m b e : V} (h1 : Kn K H p) (h2 : Kn K H s) (h3 : Kn K H m) (h4 : Kn K H b) (h5 : Kn K H e) : SpX (spCount K c) [p, s, m, b, e] H (countO c p s m b e) :=
  fun H1 x Q E q r => ⟨p, s, m, b, e, rfl, h1.ex x, h2.ex x, h3.ex x, h4.ex x, h5.ex x, q, r⟩
theorem spv_count {K : PySem.W.Frag} {c : Cs} {H : Hp} {p s m b e : Int} (R : Ring p s) (l : Lv 1 p) (m1 : 1 ≤ m) (m2 : m ≤ top p s) (b0 : 0 ≤ b) (be : b ≤ e) (ep : e < p) :
    SpV (fun vs H Q _ => spCount K c vs H Q E0) [.int p, .int s, .int m, .int b, .int e] H (.int (inCnt p s m.toNat b e)) := by
  have h := spx_count (K := K) (c := c) (H := H) (p := .int p) (s := .int s) (m := .int m) (b := .int b) (e := .int e) l (R.ls l) (lv_le (lv_top R l) (by omega) m2) (lv_le l b0 (by omega)) (lv_le l (by omega) (by omega))
  have eO : countO c (.int p) (.int s) (.int m) (.int b) (.int e) = .val (.int (inCnt p s m.toNat b e)) := by
    unfold countO
    rw [marksO_ok R m1 m2]
    show (match stretchO c (.int p) (.int b) (.int e) with | .err C => Out.err C | .val _ => _) = _
    rw [stretchO_ok b0 be (show e < iv (.int p) from ep)]
    rfl
  rw [eO] at h
  exact fun H1 x Q q E => spv_of h H1 x Q q E0
theorem ok_count {c : Cs} (F : Fun K "count" "count" s_count f fd) (G_check_marks : FnOk P w K mg base (L2.CX P w) 3 f1 fd1 ["places", "step", "marks"] (spMarks K c)) (A_check_marks : At K mg "check_marks" s_check_marks ["places", "step", "marks"] f1 fd1)
    (G_check_stretch : FnOk P w K mg base (L2.CX P w) 2 f2 fd2 ["places", "begin", "end"] (spStretch K c)) (A_check_stretch : At K mg "check_stretch" s_check_stretch ["places", "begin", "end"] f2 fd2)
    (G_marks_to : FnOk P w K mg base CX0 2 f3 fd3 ["places", "step", "marks", "place"] spMarksTo) (A_marks_to : At K mg "marks_to" s_marks_to ["places", "step", "marks", "place"] f3 fd3) : FnOk P w K mg base (L2.CX P w) 4 f fd ["places", "step", "marks", "begin", "end"] (spCount K c) := by
  refine F.okX sc_count (fun vs H Q E h => ?_) (fun cdv A outer s H vs Q E hr h => ?_)
  · obtain ⟨p, s, m, b, e, rfl, _⟩ := h
    rfl
  · obtain ⟨p, s, m, b, e, rfl, h1, h2, h3, h4, h5, k⟩ := h
    refine ⟨_, (pss_cons (ps_expr (pe_call G_check_marks (hr.mono (by omega)) rfl A_check_marks.g A_check_marks.fn.kp A_check_marks.b .nil (passes_call (takes_of rfl rfl rfl rfl) (fun _ _ _ _ h => h)) (pa_cons (pv 0) (pa_cons (pv 1) (pa_cons (pv 2) pa_nil)))))
      (pss_cons (ps_expr (pe_call G_check_stretch (hr.mono (by omega)) rfl A_check_stretch.g A_check_stretch.fn.kp A_check_stretch.b .nil (passes_call (takes_of rfl rfl rfl rfl) (fun _ _ _ _ h => h)) (pa_cons (pv 0) (pa_cons (pv 3) (pa_cons (pv 4) pa_nil)))))
      (pss_cons (ps_set (i := 5) sc_count.nd rfl (Or.inl rfl) (pe_ifExp (pt_cmpR op_gt (pv 3) pe_int (nomark _)) (pe_call G_marks_to (hr.mono (by omega)) rfl A_marks_to.g A_marks_to.fn.kp A_marks_to.b .nil pass0 (pa_cons (pv 0) (pa_cons (pv 1) (pa_cons (pv 2) (pa_cons (pe_op op_sub (pv 3) pe_int) pa_nil))))) pe_int))
      (pss_cons (ps_ret (pe_op op_sub (pe_call G_marks_to (hr.mono (by omega)) rfl A_marks_to.g A_marks_to.fn.kp A_marks_to.b .nil pass0 (pa_cons (pv 0) (pa_cons (pv 1) (pa_cons (pv 2) (pa_cons (pv 4) pa_nil))))) (pv 5)))
      pss_nil)))), Go.at ?_⟩
    refine g_dropX (evx_call (ea_cons (ev_var rfl) (ea_cons (ev_var rfl) (ea_cons (ev_var rfl) ea_nil))) (spx_marks h1 h2 h3)) (fun v hv => ?_) (fun C hC H1 x => k.2 C (by unfold countO; rw [hC]) H1 x)
    obtain ⟨rfl, P, S, M, rfl, rfl, rfl, R, m1, m2⟩ := marksO_val hv
    refine g_dropX (evx_call (ea_cons (ev_var rfl) (ea_cons (ev_var rfl) (ea_cons (ev_var rfl) ea_nil))) (spx_stretch h4 h5)) (fun v hv2 => ?_) (fun C hC H1 x => k.2 C (by unfold countO; rw [hv]; show (match stretchO c (.int P) b e with | .err C => Out.err C | .val _ => _) = _; rw [hC]) H1 x)
    obtain ⟨rfl, B, E', rfl, rfl, b0, be, ep⟩ := stretchO_val hv2
    have ep : E' < P := ep
    have eO : countO c (.int P) (.int S) (.int M) (.int B) (.int E') = .val (.int (inCnt P S M.toNat B E')) := by
      unfold countO
      rw [hv]
      show (match stretchO c (.int P) (.int B) (.int E') with | .err C => Out.err C | .val _ => _) = _
      rw [hv2]
      rfl
    rw [eO] at k
    have lm : Lv 1 M := h3
    refine g_asg (v := .int (cnt P S M.toNat (B - 1))) (ev_if (et_test (ev_op (ev_var rfl) ev_c rv_I0)) (fun h => ?_) (fun h => ?_)) ?_
    · have : 0 < B := of_decide_eq_true h
      exact ev_call1 (ea_cons (ev_var rfl) (ea_cons (ev_var rfl) (ea_cons (ev_var rfl) (ea_cons (ev_op (ev_var rfl) ev_c rv_I0) ea_nil)))) (spv_marksTo R (by omega) (by omega) (by omega) h1 lm)
    · have : ¬ 0 < B := of_decide_eq_false h
      rw [cnt_neg P S M.toNat (B - 1) (by omega) (by omega)]
      exact ev_c
    · exact g_ret (ev_op (ev_call1 (ea_cons (ev_var rfl) (ea_cons (ev_var rfl) (ea_cons (ev_var rfl) (ea_cons (ev_var rfl) ea_nil)))) (spv_marksTo R (by omega) (by omega) (by omega) h1 lm)) (ev_var rfl) rv_I0) k.val
/-! ### turns -/
abbrev s_check_mark : Stmt := topS 26
theorem sc_check_mark : FnScope ["mark", "marks"] ["mark", "marks"] (defScope s_check_mark) := ⟨rfl, rfl, rfl, by decide +kernel, rfl, by decide +kernel, by decide +kernel⟩
def spMark (K : PySem.W.Frag) (c : Cs) : Sp := fun vs H Q E => ∃ k M, vs = [k, .int M] ∧ Kn K H k ∧ Fin (markO c k (.int M)) H Q E
theorem spx_mark {K : PySem.W.Frag} {c : Cs} {H : Hp} {k : V} {M : Int} (h : Kn K H k) : SpX (spMark K c) [k, .int M] H (markO c k (.int M)) := fun H1 x Q E q r => ⟨k, M, rfl, h.ex x, q, r⟩
theorem ok_check_mark {c : Cs} (F : Fun K "check_mark" "check_mark" s_check_mark f fd) (G_is_number : FnOk P w K mg base CX0 1 f1 fd1 ["thing", "least", "most"] (spIsNum K)) (A_is_number : At K mg "is_number" s_is_number ["thing", "least", "most"] f1 fd1)
    (E_BadMark : ErrAt K mg "BadMark" c.ck) : FnOk P w K mg base (L2.CX P w) 2 f fd ["mark", "marks"] (spMark K c) := by
  refine F.okX sc_check_mark (fun vs H Q E h => ?_) (fun cdv A outer s H vs Q E hr h => ?_)
  · obtain ⟨k, M, rfl, _⟩ := h
    rfl
  · obtain ⟨k, M, rfl, hk, q⟩ := h
    have eO : markO c k (.int M) = if okIn k 0 (M - 1) then .val .non else .err c.ck := rfl
    rw [eO] at q
    refine ⟨_, (pss_cons (ps_if (pt_not (pt_val (pe_call G_is_number (hr.mono (by omega)) rfl A_is_number.g A_is_number.fn.kp A_is_number.b .nil pass0 (pa_cons (pv 0) (pa_cons pe_int (pa_cons (pe_op op_sub (pv 1) pe_int) pa_nil)))))) (pss_cons (ps_raise rfl (takes_of rfl rfl rfl rfl) (pmk_own PySem.F.excBase_ValueError E_BadMark.x E_BadMark.g E_BadMark.k (raises_own E_BadMark.b E_BadMark.t) rfl))
      pss_nil) pss_nil)
      pss_nil), Go.at ?_⟩
    refine g_when (et_not (et_B (ev_call1 (ea_cons (ev_var rfl) (ea_cons ev_c (ea_cons (ev_op (ev_var rfl) ev_c rv_I0) ea_nil))) (spv_isNum hk fun i e => ⟨_, rfl⟩)))) (fun h => ?_) (fun h => ?_)
    · rw [numW_okIn] at h
      rw [if_neg (by first | exact nf h | exact nt h)] at q
      exact g_raise fun H1 e => q.err H1 e
    · rw [numW_okIn] at h
      rw [if_pos (by first | exact nf h | exact nt h)] at q
      exact g_next fun H1 e => q.val H1 e
abbrev s_turn_of : Stmt := topS 27
theorem sc_turn_of : FnScope ["places", "step", "marks", "mark"] ["places", "step", "marks", "mark"] (defScope s_turn_of) := ⟨rfl, rfl, rfl, by decide +kernel, rfl, by decide +kernel, by decide +kernel⟩
def turnO (c : Cs) (p s m k : V) : Out := match marksO c p s m with
  | .err C => .err C
  | .val _ => (match markO c k m with
    | .err C => .err C
    | .val _ => .val (.int (RS.cnt (iv p) (iv s) (iv m).toNat (iv k * iv s % iv p) - 1)))
def spTurnOf (K : PySem.W.Frag) (c : Cs) : Sp := fun vs H Q E => ∃ p s m k, vs = [p, s, m, k] ∧ Kn K H p ∧ Kn K H s ∧ Kn K H m ∧ Kn K H k ∧ Fin (turnO c p s m k) H Q E
def spTurnQ (K : PySem.W.Frag) (c : Cs) : Sp := fun vs H Q _ => spTurnOf K c vs H Q E0
theorem spx_turnOf {K : PySem.W.Frag} {c : Cs} {H : Hp} {p s m k : V} (h1 : Kn K H p) (h2 : Kn K H s) (h3 : Kn K H m) (h4 : Kn K H k) : SpX (spTurnOf K c) [p, s, m, k] H (turnO c p s m k) :=
  fun H1 x Q E q r => ⟨p, s, m, k, rfl, h1.ex x, h2.ex x, h3.ex x, h4.ex x, q, r⟩
theorem turnO_ok {c : Cs} {p s m k : Int} (R : Ring p s) (m1 : 1 ≤ m) (m2 : m ≤ top p s) (k0 : 0 ≤ k) (km : k < m) : turnO c (.int p) (.int s) (.int m) (.int k) = .val (.int (RS.cnt p s m.toNat (k * s % p) - 1)) := by
  unfold turnO
  rw [marksO_ok R m1 m2]
  show (match markO c (.int k) (.int m) with | .err C => Out.err C | .val _ => _) = _
  rw [markO_ok k0 (show k < iv (.int m) from km)]
  rfl
theorem spv_turnOf {K : PySem.W.Frag} {c : Cs} {H : Hp} {p s m k : Int} (R : Ring p s) (l : Lv 1 p) (m1 : 1 ≤ m) (m2 : m ≤ top p s) (k0 : 0 ≤ k) (km : k < m) :
    SpV (spTurnQ K c) [.int p, .int s, .int m, .int k] H (.int (RS.cnt p s m.toNat (k * s % p) - 1)) := by
  have lm : Lv 1 m := lv_le (lv_top R l) (by omega) m2
  have h := spx_turnOf (K := K) (c := c) (H := H) (p := .int p) (s := .int s) (m := .int m) (k := .int k) l (R.ls l) lm (lv_le lm k0 (by omega))
  rw [turnO_ok R m1 m2 k0 km] at h
  exact fun H1 x Q q E => spv_of h H1 x Q q E0
theorem ok_turn_of {c : Cs} (F : Fun K "turn_of" "turn_of" s_turn_of f fd) (G_check_marks : FnOk P w K mg base (L2.CX P w) 3 f1 fd1 ["places", "step", "marks"] (spMarks K c)) (A_check_marks : At K mg "check_marks" s_check_marks ["places", "step", "marks"] f1 fd1)
    (G_check_mark : FnOk P w K mg base (L2.CX P w) 2 f2 fd2 ["mark", "marks"] (spMark K c)) (A_check_mark : At K mg "check_mark" s_check_mark ["mark", "marks"] f2 fd2)
    (G_marks_to : FnOk P w K mg base CX0 2 f3 fd3 ["places", "step", "marks", "place"] spMarksTo) (A_marks_to : At K mg "marks_to" s_marks_to ["places", "step", "marks", "place"] f3 fd3) : FnOk P w K mg base (L2.CX P w) 4 f fd ["places", "step", "marks", "mark"] (spTurnOf K c) := by
  refine F.okX sc_turn_of (fun vs H Q E h => ?_) (fun cdv A outer s H vs Q E hr h => ?_)
  · obtain ⟨p, s, m, k, rfl, _⟩ := h
    rfl
  · obtain ⟨p, s, m, k, rfl, h1, h2, h3, h4, q⟩ := h
    refine ⟨_, (pss_cons (ps_expr (pe_call G_check_marks (hr.mono (by omega)) rfl A_check_marks.g A_check_marks.fn.kp A_check_marks.b .nil (passes_call (takes_of rfl rfl rfl rfl) (fun _ _ _ _ h => h)) (pa_cons (pv 0) (pa_cons (pv 1) (pa_cons (pv 2) pa_nil)))))
      (pss_cons (ps_expr (pe_call G_check_mark (hr.mono (by omega)) rfl A_check_mark.g A_check_mark.fn.kp A_check_mark.b .nil (passes_call (takes_of rfl rfl rfl rfl) (fun _ _ _ _ h => h)) (pa_cons (pv 3) (pa_cons (pv 2) pa_nil))))
      (pss_cons (ps_ret (pe_op op_sub (pe_call G_marks_to (hr.mono (by omega)) rfl A_marks_to.g A_marks_to.fn.kp A_marks_to.b .nil pass0 (pa_cons (pv 0) (pa_cons (pv 1) (pa_cons (pv 2) (pa_cons (pe_op op_mod (pe_op op_mulB (pv 3) (pv 1)) (pv 0)) pa_nil))))) pe_int))
      pss_nil))), Go.at ?_⟩
    refine g_dropX (evx_call (ea_cons (ev_var rfl) (ea_cons (ev_var rfl) (ea_cons (ev_var rfl) ea_nil))) (spx_marks h1 h2 h3)) (fun v hv => ?_) (fun C hC H1 x => q.2 C (by unfold turnO; rw [hC]) H1 x)
    obtain ⟨rfl, P, S, M, rfl, rfl, rfl, R, m1, m2⟩ := marksO_val hv
    refine g_dropX (evx_call (ea_cons (ev_var rfl) (ea_cons (ev_var rfl) ea_nil)) (spx_mark h4)) (fun v hv2 => ?_) (fun C hC H1 x => q.2 C (by unfold turnO; rw [hv]; show (match markO c k (.int M) with | .err C => Out.err C | .val _ => _) = _; rw [hC]) H1 x)
    obtain ⟨rfl, i, rfl, i0, im⟩ := markO_val hv2
    rw [turnO_ok R m1 m2 i0 im] at q
    have p1 := R.p
    have lS := R.ls h1
    have x0 := Int.emod_nonneg (i * S) (show P ≠ 0 by omega)
    have x1 := Int.emod_lt_of_pos (i * S) (show 0 < P by omega)
    exact g_ret (ev_op (ev_call1 (ea_cons (ev_var rfl) (ea_cons (ev_var rfl) (ea_cons (ev_var rfl) (ea_cons (ev_op (ev_op (ev_var rfl) (ev_var rfl) (rv_I (mul_ok h4 lS (by decide) (by decide)))) (ev_var rfl) (rv_I (show (0 : Int) < P by omega))) ea_nil)))) (spv_marksTo R (by omega) x0 x1 h1 h3)) ev_c rv_I0) q.val
/-! ### answers -/
abbrev s_First___init__ : Stmt := inClass (topS 18) 0
theorem sc_First___init__ : FnScope ["self", "mark"] ["self", "mark"] (defScope s_First___init__) := ⟨rfl, rfl, rfl, by decide +kernel, rfl, by decide +kernel, by decide +kernel⟩
theorem ok_First___init__ {C : Addr} (Cl : Cls K C) (na : NoAttr K C "mark") (F : Fun K "__init__" "First.__init__" s_First___init__ f fd) : FnOk P w K mg base CX0 1 f fd ["self", "mark"] (spIni C "mark") := by
  refine F.ok sc_First___init__ (fun vs H Q E h => ?_) (fun cdv A outer s H vs Q E hr h => ?_)
  · obtain ⟨p, dx, x, rfl, _⟩ := h
    rfl
  · obtain ⟨p, dx, x, rfl, h1, k⟩ := h
    exact ⟨_, (pss_cons (ps_fld (pv 0) (pv 1) rfl)
      pss_nil), ini_body Cl na h1 k⟩
abbrev s_Never___init__ : Stmt := inClass (topS 19) 0
theorem sc_Never___init__ : FnScope ["self", "common"] ["self", "common"] (defScope s_Never___init__) := ⟨rfl, rfl, rfl, by decide +kernel, rfl, by decide +kernel, by decide +kernel⟩
theorem ok_Never___init__ {C : Addr} (Cl : Cls K C) (na : NoAttr K C "common") (F : Fun K "__init__" "Never.__init__" s_Never___init__ f fd) : FnOk P w K mg base CX0 1 f fd ["self", "common"] (spIni C "common") := by
  refine F.ok sc_Never___init__ (fun vs H Q E h => ?_) (fun cdv A outer s H vs Q E hr h => ?_)
  · obtain ⟨p, dx, x, rfl, _⟩ := h
    rfl
  · obtain ⟨p, dx, x, rfl, h1, k⟩ := h
    exact ⟨_, (pss_cons (ps_fld (pv 0) (pv 1) rfl)
      pss_nil), ini_body Cl na h1 k⟩
abbrev s_First_shows : Stmt := inClass (topS 18) 1
theorem sc_First_shows : FnScope ["self", "places", "step", "begin", "end", "before"] ["self", "places", "step", "begin", "end"] (defScope s_First_shows) := ⟨rfl, rfl, rfl, by decide +kernel, rfl, by decide +kernel, by decide +kernel⟩
/-- an answer's one attribute -/
def AnsAt (H : Hp) (C p : Addr) (f : Str) (m : Int) : Prop := ∃ dx, H p = some (.ins C dx [(f, .int m)])
theorem AnsAt.ex {H H' : Hp} {C p : Addr} {f : Str} {m : Int} (h : AnsAt H C p f m) (e : Ex H H') : AnsAt H' C p f m := let ⟨dx, h⟩ := h; ⟨dx, e p _ h⟩
def spShF (C : Addr) : Sp := fun vs H Q _ => ∃ (a : Addr) (m p s b e : Int), vs = [.ref a, .int p, .int s, .int b, .int e] ∧ AnsAt H C a "mark" m ∧ Ring p s ∧ 0 ≤ b ∧ b ≤ e ∧ e < p ∧ Lv 1 p ∧ Lv 1 m ∧ ∀ H', Ex H H' → Q (.bl (showsF p s b e m)) H'
theorem spv_shF {C : Addr} {H : Hp} {a : Addr} {m p s b e : Int} (h : AnsAt H C a "mark" m) (R : Ring p s) (b0 : 0 ≤ b) (be : b ≤ e) (ep : e < p) (l1 : Lv 1 p) (l2 : Lv 1 m) : SpV (spShF C) [.ref a, .int p, .int s, .int b, .int e] H (.bl (showsF p s b e m)) :=
  fun H1 x Q q E => ⟨a, m, p, s, b, e, rfl, h.ex x, R, b0, be, ep, l1, l2, q⟩
theorem ok_First_shows {C : Addr} (Cl : Cls K C) (na : NoAttr K C "mark") (F : Fun K "shows" "First.shows" s_First_shows f fd) (G_is_number : FnOk P w K mg base CX0 1 f1 fd1 ["thing", "least", "most"] (spIsNum K)) (A_is_number : At K mg "is_number" s_is_number ["thing", "least", "most"] f1 fd1)
    (G_marks_to : FnOk P w K mg base CX0 2 f2 fd2 ["places", "step", "marks", "place"] spMarksTo) (A_marks_to : At K mg "marks_to" s_marks_to ["places", "step", "marks", "place"] f2 fd2) : FnOk P w K mg base CX0 3 f fd ["self", "places", "step", "begin", "end"] (spShF C) := by
  refine F.ok sc_First_shows (fun vs H Q E h => ?_) (fun cdv A outer s H vs Q E hr h => ?_)
  · obtain ⟨a, m, p, s, b, e, rfl, _⟩ := h
    rfl
  · obtain ⟨a, m, p, s, b, e, rfl, ⟨dx, hA⟩, R, b0, be, ep, lp, lm, k⟩ := h
    have ls := R.ls lp
    have p1 := R.p
    have lk : List.lookup ("mark" : Str) [(("mark" : Str), V.int m)] = some (V.int m) := by simp [List.lookup]
    refine ⟨_, (pss_cons (ps_if (PW.pt (pw_or (pt_not (pt_val (pe_call G_is_number (hr.mono (by omega)) rfl A_is_number.g A_is_number.fn.kp A_is_number.b .nil pass0 (pa_cons (pe_fld (pv 0) rfl) (pa_cons pe_int (pa_cons (pe_fld (pv 0) rfl) pa_nil)))))) (pw_or1 (pt_not (pt_chain op_le op_le (pv 3) (pe_op op_mod (pe_op op_mulB (pe_fld (pv 0) rfl) (pv 2)) (pv 1)) (pv 4)))))) (pss_cons (ps_ret pe_bl)
      pss_nil) pss_nil)
      (pss_cons (ps_set (i := 5) sc_First_shows.nd rfl (Or.inl rfl) (pe_ifExp (pt_cmpR op_gt (pv 3) pe_int (nomark _)) (pe_call G_marks_to (hr.mono (by omega)) rfl A_marks_to.g A_marks_to.fn.kp A_marks_to.b .nil pass0 (pa_cons (pv 1) (pa_cons (pv 2) (pa_cons (pe_fld (pv 0) rfl) (pa_cons (pe_op op_sub (pv 3) pe_int) pa_nil))))) pe_int))
      (pss_cons (ps_ret (pe_cmpR op_eq (pe_call G_marks_to (hr.mono (by omega)) rfl A_marks_to.g A_marks_to.fn.kp A_marks_to.b .nil pass0 (pa_cons (pv 1) (pa_cons (pv 2) (pa_cons (pe_fld (pv 0) rfl) (pa_cons (pv 4) pa_nil))))) (pv 5) (nomark _)))
      pss_nil))), Go.at ?_⟩
    have mk : Ev (tFld K (tVar 0) "mark") (start ["self", "places", "step", "begin", "end", "before"] [.ref a, .int p, .int s, .int b, .int e]) H (.int m) := ev_fld (ev_var rfl) hA Cl na lk
    refine g_when (b := !(decide (0 ≤ m) && decide (m ≤ m)) || !(decide (b ≤ m * s % p) && decide (m * s % p ≤ e))) (et_or (et_not (et_B (ev_call1 (ea_cons mk (ea_cons ev_c (ea_cons mk ea_nil))) (spv_isNum (x := .int m) lm fun i e => ⟨_, rfl⟩)))) fun _ => et_not (et_test (ev_chainI (ev_var rfl) (ev_op (ev_op mk (ev_var rfl) (rv_I (mul_ok lm ls (by decide) (by decide)))) (ev_var rfl) (rv_I (show (0 : Int) < p by omega))) (ev_var rfl)))) (fun h => ?_) (fun h => ?_)
    · refine g_ret (v := .bl (showsF p s b e m)) (ev_is ev_c ?_) k
      unfold showsF
      rw [Bool.or_eq_true] at h
      rcases h with h | h
      · have : decide (0 ≤ m) = false := by
          cases q : decide (0 ≤ m) with
          | false => rfl
          | true => rw [q] at h; simp at h
        rw [this]; rfl
      · have : (decide (b ≤ m * s % p) && decide (m * s % p ≤ e)) = false := by
          cases q : (decide (b ≤ m * s % p) && decide (m * s % p ≤ e)) with
          | false => rfl
          | true => rw [q] at h; cases h
        rw [this, Bool.and_false]; rfl
    · rw [Bool.or_eq_false_iff] at h
      have h1 : decide (0 ≤ m) = true := by
        have := nt h.1
        rw [Bool.and_eq_true] at this
        exact this.1
      have h2 := nt h.2
      have m0 : 0 ≤ m := of_decide_eq_true h1
      refine g_asg (v := .int (RS.cnt p s m.toNat (b - 1))) (ev_if (et_test (ev_op (ev_var rfl) ev_c rv_I0)) (fun h => ?_) (fun h => ?_)) ?_
      · have : 0 < b := of_decide_eq_true h
        exact ev_call1 (ea_cons (ev_var rfl) (ea_cons (ev_var rfl) (ea_cons mk (ea_cons (ev_op (ev_var rfl) ev_c rv_I0) ea_nil)))) (spv_marksTo R m0 (by omega) (by omega) lp lm)
      · have : ¬ 0 < b := of_decide_eq_false h
        rw [cnt_neg p s m.toNat (b - 1) (by omega) (by omega)]
        exact ev_c
      · have mk : Ev (tFld K (tVar 0) "mark") ((start ["self", "places", "step", "begin", "end", "before"] [.ref a, .int p, .int s, .int b, .int e]).set 5 (some (.int (RS.cnt p s m.toNat (b - 1))))) H (.int m) := ev_fld (ev_var rfl) hA Cl na lk
        refine g_ret (v := .bl (showsF p s b e m)) (ev_is (ev_op (ev_call1 (ea_cons (ev_var rfl) (ea_cons (ev_var rfl) (ea_cons mk (ea_cons (ev_var rfl) ea_nil)))) (spv_marksTo R m0 (by omega) ep lp lm)) (ev_var rfl) (rv_eq rfl)) ?_) k
        unfold showsF
        rw [h1, h2]
        unfold inCnt
        refine congrArg V.bl ?_
        rw [Bool.and_self, Bool.true_and]
        by_cases z : RS.cnt p s m.toNat e = RS.cnt p s m.toNat (b - 1)
        · rw [z, decide_eq_true rfl, decide_eq_true (by omega)]
        · rw [decide_eq_false (fun q => z (by injection q)), decide_eq_false (by omega)]
abbrev s_Never_shows : Stmt := inClass (topS 19) 1
theorem sc_Never_shows : FnScope ["self", "places", "step", "begin", "end"] ["self", "places", "step", "begin", "end"] (defScope s_Never_shows) := ⟨rfl, rfl, rfl, by decide +kernel, rfl, by decide +kernel, by decide +kernel⟩
def spShN (C : Addr) : Sp := fun vs H Q _ => ∃ (a : Addr) (c p s b e : Int), vs = [.ref a, .int p, .int s, .int b, .int e] ∧ AnsAt H C a "common" c ∧ Lv 1 e ∧ Lv 1 c ∧ ∀ H', Ex H H' → Q (.bl (showsN p s b e c)) H'
theorem spv_shN {C : Addr} {H : Hp} {a : Addr} {c p s b e : Int} (h : AnsAt H C a "common" c) (l1 : Lv 1 e) (l2 : Lv 1 c) : SpV (spShN C) [.ref a, .int p, .int s, .int b, .int e] H (.bl (showsN p s b e c)) :=
  fun H1 x Q q E => ⟨a, c, p, s, b, e, rfl, h.ex x, l1, l2, q⟩
theorem ne_int {a b : Int} : (!decide (V.int a = V.int b)) = !decide (a = b) := by
  by_cases z : a = b
  · rw [z, decide_eq_true rfl, decide_eq_true rfl]
  · rw [decide_eq_false z, decide_eq_false (fun q => z (by injection q))]
theorem ok_Never_shows {C : Addr} (Cl : Cls K C) (na : NoAttr K C "common") (F : Fun K "shows" "Never.shows" s_Never_shows f fd) (G_is_number : FnOk P w K mg base CX0 1 f1 fd1 ["thing", "least", "most"] (spIsNum K)) (A_is_number : At K mg "is_number" s_is_number ["thing", "least", "most"] f1 fd1) :
    FnOk P w K mg base CX0 3 f fd ["self", "places", "step", "begin", "end"] (spShN C) := by
  refine F.ok sc_Never_shows (fun vs H Q E h => ?_) (fun cdv A outer s H vs Q E hr h => ?_)
  · obtain ⟨a, m, p, s, b, e, rfl, _⟩ := h
    rfl
  · obtain ⟨a, m, p, s, b, e, rfl, ⟨dx, hA⟩, le, lm, k⟩ := h
    have lk : List.lookup ("common" : Str) [(("common" : Str), V.int m)] = some (V.int m) := by simp [List.lookup]
    refine ⟨_, (pss_cons (ps_if (PW.pt (pw_or (pt_not (pt_val (pe_call G_is_number (hr.mono (by omega)) rfl A_is_number.g A_is_number.fn.kp A_is_number.b .nil pass0 (pa_cons (pe_fld (pv 0) rfl) (pa_cons pe_int (pa_cons (pe_fld (pv 0) rfl) pa_nil)))))) (pw_or (pt_cmpR op_ne (pe_op op_mod (pv 1) (pe_fld (pv 0) rfl)) pe_int (nomark _)) (pw_or1 (pt_cmpR op_ne (pe_op op_mod (pv 2) (pe_fld (pv 0) rfl)) pe_int (nomark _)))))) (pss_cons (ps_ret pe_bl)
      pss_nil) pss_nil)
      (pss_cons (ps_ret (pe_cmpR op_lt (pe_op op_mulB (pe_op op_fdivW (pv 4) (pe_fld (pv 0) rfl)) (pe_fld (pv 0) rfl)) (pv 3) (nomark _)))
      pss_nil)), Go.at ?_⟩
    have mk : Ev (tFld K (tVar 0) "common") (start ["self", "places", "step", "begin", "end"] [.ref a, .int p, .int s, .int b, .int e]) H (.int m) := ev_fld (ev_var rfl) hA Cl na lk
    have n1 : EvT (tNot (tB (tCall (spIsNum K) [] E0 (tCons (tFld K (tVar 0) "common") (tCons (tC (.int 1)) (tCons (tFld K (tVar 0) "common") tNil)))))) (start ["self", "places", "step", "begin", "end"] [.ref a, .int p, .int s, .int b, .int e]) H (!(decide (1 ≤ m) && decide (m ≤ m))) := et_not (et_B (ev_call1 (ea_cons mk (ea_cons ev_c (ea_cons mk ea_nil))) (spv_isNum (x := .int m) lm fun i e => ⟨_, rfl⟩)))
    by_cases m1 : 1 ≤ m
    · rw [decide_eq_true m1, decide_eq_true (Int.le_refl m)] at n1
      have sN : showsN p s b e m = (decide (p % m = 0) && decide (s % m = 0) && decide (e / m * m < b)) := by
        unfold showsN
        rw [decide_eq_true m1, Bool.true_and]
      refine g_when (b := !(decide (p % m = 0)) || !(decide (s % m = 0))) (et_or (b := !(decide (p % m = 0)) || !(decide (s % m = 0))) n1 fun _ => et_or (et_is (et_test (ev_op (ev_op (ev_var rfl) mk (rv_I (show (0 : Int) < m by omega))) ev_c (rv_ne rfl))) ne_int) fun _ => et_is (et_test (ev_op (ev_op (ev_var rfl) mk (rv_I (show (0 : Int) < m by omega))) ev_c (rv_ne rfl))) ne_int) (fun h => ?_) (fun h => ?_)
      · refine g_ret (v := .bl (showsN p s b e m)) (ev_is ev_c ?_) k
        rw [sN]
        cases q1 : decide (p % m = 0) <;> cases q2 : decide (s % m = 0) <;> simp [q1, q2] at h ⊢
      · have ld : Lv 1 (e / m) := lv_div le (by omega)
        refine g_ret (v := .bl (showsN p s b e m)) (ev_is (ev_op (ev_op (ev_op (ev_var rfl) mk (rv_I (div_ok (by omega) lm))) mk (rv_I (mul_ok ld lm (by decide) (by decide)))) (ev_var rfl) rv_I0) ?_) k
        rw [sN]
        cases q1 : decide (p % m = 0) <;> cases q2 : decide (s % m = 0) <;> simp [q1, q2] at h ⊢
    · rw [decide_eq_false m1] at n1
      refine g_when (b := true) (et_or (a := true) (b := true) n1 fun h => nomatch h) (fun _ => ?_) (fun h => nomatch h)
      refine g_ret (v := .bl (showsN p s b e m)) (ev_is ev_c ?_) k
      unfold showsN
      rw [decide_eq_false m1]
      rfl
/-! ### the first mark -/
abbrev s_led_back : Stmt := topS 21
theorem sc_led_back : FnScope ["led", "mark", "places", "step", "begin"] ["led", "mark"] (defScope s_led_back) := ⟨rfl, rfl, rfl, by decide +kernel, rfl, by decide +kernel, by decide +kernel⟩
/-- the rows to which it was led stand at a -/
def LedAt (H : Hp) (a : Addr) (l : List (Int × Int × Int)) : Prop := ∃ xs, H a = some (.lst xs) ∧ TupsAt H xs (l.map fun x => [V.int x.1, V.int x.2.1, V.int x.2.2])
def spLedBack (P0 A0 B0 E1 : Int) : Sp := fun vs H Q _ => ∃ (a : Addr) (l : List (Int × Int × Int)) (p s b e m : Int), vs = [.ref a, .int m] ∧ LedAt H a l ∧ Led P0 A0 B0 E1 l p s b e ∧ 0 < p ∧ FirstIn p s b e m ∧ Lv 1 P0 ∧
  ∀ k H', FirstIn P0 A0 B0 E1 k → Ex H H' → Q (.int k) H'
theorem first_lv {P0 p s b e m : Int} (h : FirstIn p s b e m) (hp : 0 < p) (hP : p ≤ P0) (l : Lv 1 P0) : Lv 1 m := lv_le l h.nn (by have := h.lt hp; have := top_le (p := p) (s := s) hp; omega)
theorem ok_led_back (hA : Blt mg) {P0 A0 B0 E1 : Int} (F : Fun K "led_back" "led_back" s_led_back f fd) : FnOk P w K mg base CX0 1 f fd ["led", "mark"] (spLedBack P0 A0 B0 E1) := by
  refine F.ok sc_led_back (fun vs H Q E h => ?_) (fun cdv A outer s H vs Q E hr h => ?_)
  · obtain ⟨a, l, p, s, b, e, m, rfl, _⟩ := h
    rfl
  · obtain ⟨a, l, p, s, b, e, m, rfl, ⟨xs, hxs, hT⟩, L, p0, hF, lP, k⟩ := h
    refine ⟨_, (pss_cons (ps_for PassesOwn.never rfl (pi_reversed rfl hA.z_reversed (pa_cons (pv 0) pa_nil)) (pg_tup rfl (pgs_cons (pg_name (i := 2) sc_led_back.nd rfl (Or.inl rfl)) (pgs_cons (pg_name (i := 3) sc_led_back.nd rfl (Or.inl rfl)) (pgs_cons (pg_name (i := 4) sc_led_back.nd rfl (Or.inl rfl)) pgs_nil)))) (pss_cons (ps_set (i := 1) sc_led_back.nd rfl (Or.inl rfl) (pe_op op_fdivW (pe_op op_sub (pe_op op_add (pe_op op_add (pv 4) (pe_op op_mulB (pv 2) (pv 1))) (pv 3)) pe_int) (pv 3)))
      pss_nil))
      (pss_cons (ps_ret (pv 1))
      pss_nil)), Go.at ?_⟩
    refine g_for (ef_rev3 (ea_cons (ev_var rfl) ea_nil) (sq_of hxs) hT) (fun i σ' => ∃ (mk p s b e : Int) (o2 o3 o4 : Option V), σ' = [some (.ref a), some (.int mk), o2, o3, o4] ∧ Led P0 A0 B0 E1 (l.take (l.length - i)) p s b e ∧ 0 < p ∧ FirstIn p s b e mk) ⟨m, p, s, b, e, none, none, none, rfl, by rw [Nat.sub_zero, List.take_length]; exact L, p0, hF⟩ ?_ ?_
    · rintro H2 e2 i σ' hi ⟨mk, p, s, b, e, o2, o3, o4, rfl, L', p0', hF'⟩
      have hj : l.length - 1 - i < l.length := by omega
      have hcut : l.take (l.length - i) = l.take (l.length - (i + 1)) ++ [l[l.length - 1 - i]] := by
        have e1 : l.length - i = (l.length - 1 - i) + 1 := by omega
        have e2 : l.length - (i + 1) = l.length - 1 - i := by omega
        rw [e1, e2, List.take_add_one, List.getElem?_eq_getElem hj]
        rfl
      rcases L'.back p0' hF' with ⟨z, _⟩ | ⟨l', p', s', b', e', hl', L2', p2, s2, b2, bp, hF2, hF3⟩
      · rw [hcut] at z; simp at z
      · rw [hcut] at hl'
        obtain ⟨z1, z2⟩ := List.append_inj' hl' rfl
        have z3 : l[l.length - 1 - i] = (p', s', b') := by simpa using z2
        have gx : l[l.length - 1 - i]? = some (p', s', b') := by rw [List.getElem?_eq_getElem hj, z3]
        rw [gx]
        rw [← z1] at L2'
        have bd := L2'.bound
        have lp : Lv 1 p' := lv_le lP (by omega) bd.1
        have bd2 := (L'.bound).2 (p', s', b') (by rw [hcut, z3]; simp)
        have sp : s' < p' := bd2.2.1
        have ls : Lv 1 s' := lv_le lp (by omega) (by omega)
        have lm : Lv 1 mk := first_lv hF2 s2 (show s' ≤ P0 by omega) lP
        refine g_asg (ev_op (ev_op (ev_op (ev_op (ev_var rfl) (ev_op (ev_var rfl) (ev_var rfl) (rv_I (mul_ok lp lm (by decide) (by decide)))) rv_I0) (ev_var rfl) rv_I0) ev_c rv_I0) (ev_var rfl) (rv_I (div_ok s2 ls))) ?_
        exact g_next fun H3 e3 => ⟨e3, _, p', s', b', e', _, _, _, rfl, L2', p2, hF3⟩
    · rintro H2 e2 σ' ⟨mk, p, s, b, e, o2, o3, o4, rfl, L', p0', hF'⟩
      rw [Nat.sub_self, List.take_zero] at L'
      refine g_ret (ev_var rfl) fun H3 e3 => ?_
      rcases L'.back p0' hF' with ⟨_, z⟩ | ⟨l', p', s', b', e', hl', _⟩
      · exact k mk H3 z (e2.trans e3)
      · simp at hl'
abbrev s_least_mark : Stmt := topS 22
theorem sc_least_mark : FnScope ["places", "step", "begin", "end", "led", "times"] ["places", "step", "begin", "end"] (defScope s_least_mark) := ⟨rfl, rfl, rfl, by decide +kernel, rfl, by decide +kernel, by decide +kernel⟩
def spLeast : Sp := fun vs H Q _ => ∃ p s b e : Int, vs = [.int p, .int s, .int b, .int e] ∧ Ring p s ∧ 0 ≤ b ∧ b ≤ e ∧ e < p ∧ HasM (G p s) b e ∧ Lv 1 p ∧ ∀ k H', FirstIn p s b e k → Ex H H' → Q (.int k) H'
theorem ok_least_mark (F : Fun K "least_mark" "least_mark" s_least_mark f fd) (G_led_back : ∀ P0 A0 B0 E1 : Int, FnOk P w K mg base CX0 1 f1 fd1 ["led", "mark"] (spLedBack P0 A0 B0 E1)) (A_led_back : At K mg "led_back" s_led_back ["led", "mark"] f1 fd1) : FnOk P w K mg base CX0 2 f fd ["places", "step", "begin", "end"] spLeast := by
  refine F.ok sc_least_mark (fun vs H Q E h => ?_) (fun cdv A outer s H vs Q E hr h => ?_)
  · obtain ⟨p, s, b, e, rfl, _⟩ := h
    rfl
  · obtain ⟨P0, A0, B0, E1, rfl, R, b0, be, ep, hM, lP, k⟩ := h
    have R1 := R.p
    have R2 := R.s0
    have R3 := R.s
    replace G_led_back := G_led_back P0 A0 B0 E1
    refine ⟨_, (pss_cons (ps_set (i := 4) sc_least_mark.nd rfl (Or.inl rfl) (pe_lst pa_nil))
      (pss_cons (ps_while PassesOwn.never (pt_cmpR op_gt (pv 2) pe_int (nomark _)) (pss_cut (ps_if (pt_cmpR op_gt (pe_op op_mulB pe_int (pv 1)) (pv 0) (nomark _)) (pss_cons (ps_par3 (i := 1) (j := 2) (l := 3) (by rfl) sc_least_mark.nd rfl rfl rfl (by decide) (by decide) (by decide) rfl rfl rfl (pa_cons (pe_op op_sub (pv 0) (pv 1)) (pa_cons (pe_op op_sub (pv 0) (pv 3)) (pa_cons (pe_op op_sub (pv 0) (pv 2)) pa_nil))) (by rfl))
      pss_nil) pss_nil)
      (pss_cons (ps_set (i := 5) sc_least_mark.nd rfl (Or.inl rfl) (pe_op op_fdivW (pe_op op_sub (pe_op op_add (pv 2) (pv 1)) pe_int) (pv 1)))
      (pss_cons (ps_if (pt_cmpR op_le (pe_op op_mulB (pv 5) (pv 1)) (pv 3) (nomark _)) (pss_cons (ps_ret (pe_call G_led_back (hr.mono (by omega)) rfl A_led_back.g A_led_back.fn.kp A_led_back.b .nil pass0 (pa_cons (pv 4) (pa_cons (pv 5) pa_nil))))
      pss_nil) pss_nil)
      (pss_cons (ps_expr (pe_bm PySem.F.plainAttrs_list PySem.F.slot_list_append PySem.F.type_list_append mt_append (pv 4) (pa_cons (pe_tup (pa_cons (pv 0) (pa_cons (pv 1) (pa_cons (pv 2) pa_nil)))) pa_nil)))
      (pss_cons (ps_asg (pe_tup (pa_cons (pv 1) (pa_cons (pe_op op_mod (pe_un un_neg (pv 0)) (pv 1)) (pa_cons (pe_op op_mod (pv 2) (pv 1)) (pa_cons (pe_op op_mod (pv 3) (pv 1)) pa_nil))))) (pg_tup rfl (pgs_cons (pg_name (i := 0) sc_least_mark.nd rfl (Or.inl rfl)) (pgs_cons (pg_name (i := 1) sc_least_mark.nd rfl (Or.inl rfl)) (pgs_cons (pg_name (i := 2) sc_least_mark.nd rfl (Or.inl rfl)) (pgs_cons (pg_name (i := 3) sc_least_mark.nd rfl (Or.inl rfl)) pgs_nil))))))
      pss_nil))))))
      (pss_cons (ps_ret (pe_call G_led_back (hr.mono (by omega)) rfl A_led_back.g A_led_back.fn.kp A_led_back.b .nil pass0 (pa_cons (pv 4) (pa_cons pe_int pa_nil))))
      pss_nil))), Go.at ?_⟩
    refine g_asgL (el_lst ea_nil (by show 0 ≤ 100000; decide)) ?_
    intro d H1 nd e1 hd
    refine g_whileH (fun σ' H' => ∃ (l : List (Int × Int × Int)) (p s b e : Int) (o5 : Option V), σ' = [some (.int p), some (.int s), some (.int b), some (.int e), some (.ref d), o5] ∧ Ex H H' ∧ LedAt H' d l ∧ Led P0 A0 B0 E1 l p s b e ∧ 0 < p ∧ p ≤ P0 ∧ 0 ≤ s ∧ s < p ∧ 0 ≤ b ∧ b ≤ e ∧ e < p ∧ HasM (G p s) b e ∧ (2 : Int) ^ l.length * p ≤ P0)
      (fun σ' => match σ' with | _ :: some (.int s) :: _ => s.toNat | _ => 0) (fun H2 e2 => ⟨[], P0, A0, B0, E1, none, rfl, e1.trans e2, ⟨[], e2 d _ hd, rfl, fun i ps h => by simp at h⟩, .nil, by omega, by omega, R2, R3, b0, be, ep, hM, by simp⟩) ?_
    rintro σ' H' ⟨l, p, s, b, e, o5, rfl, e2, ⟨xs, hxs, hT⟩, L, p0, pP, s0, sp, b0, be, ep, hM, hlen⟩
    have lp : Lv 1 p := lv_le lP (by omega) pP
    refine ⟨_, et_test (ev_op (ev_var rfl) ev_c rv_I0), fun hb => ?_, fun hb => ?_⟩
    · have hb0 : 0 < b := of_decide_eq_true hb
      have hs0 : 0 < s := step_there p0 s0 hb0 ep hM
      have ls : Lv 1 s := lv_le lp (by omega) (by omega)
      refine g_cut (fun σ' H2 => Ex H' H2 ∧ ∃ s2 b2 e2' : Int, σ' = [some (.int p), some (.int s2), some (.int b2), some (.int e2'), some (.ref d), o5] ∧ Led P0 A0 B0 E1 l p s2 b2 e2' ∧ 0 < s2 ∧ 2 * s2 ≤ p ∧ s2 ≤ s ∧ 0 < b2 ∧ b2 ≤ e2' ∧ e2' < p ∧ HasM (G p s2) b2 e2') (g_one (g_when (et_test (ev_op (ev_op ev_c (ev_var rfl) (rv_I (mul_ok (lv_small (by decide) : Lv 1 (2 : Int)) ls (by decide) (by decide)))) (ev_var rfl) rv_I0)) (fun h => ?_) (fun h => g_next fun H2 e3 => ⟨e3, s, b, e, rfl, L, hs0, by have := of_decide_eq_false h; omega, Int.le_refl _, hb0, be, ep, hM⟩))) ?_
      · have h2 : p < 2 * s := of_decide_eq_true h
        exact g_par3 (ea_cons (ev_op (ev_var rfl) (ev_var rfl) rv_I0) (ea_cons (ev_op (ev_var rfl) (ev_var rfl) rv_I0) (ea_cons (ev_op (ev_var rfl) (ev_var rfl) rv_I0) ea_nil))) (g_next fun H2 e3 => ⟨e3, p - s, p - e, p - b, rfl, .turn L hb0 ep, by omega, by omega, by omega, by omega, by omega, by omega, hasM_reflect hM⟩)
      rintro σ' H2 ⟨e3, s2, b2, e2', rfl, L2', s20, s2h, s2s, b20, b2e, e2p, hM2⟩
      refine (?_ : Go _ _ _ H') H2 e3
      have ls2 : Lv 1 s2 := lv_le lp (by omega) (by omega)
      have lb2 : Lv 1 b2 := lv_le lp (by omega) (by omega)
      have s2p : s2 < p := by omega
      refine g_asg (ev_op (ev_op (ev_op (ev_var rfl) (ev_var rfl) rv_I0) ev_c rv_I0) (ev_var rfl) (rv_I (div_ok s20 ls2))) ?_
      have lt := lv_div (lv_sub (lv_add lb2 ls2) (lv_small (by decide) : Lv 1 (1 : Int))) s20
      refine g_when (et_test (ev_op (ev_op (ev_var rfl) (ev_var rfl) (rv_I (mul_ok lt ls2 (by decide) (by decide)))) (ev_var rfl) rv_I0)) (fun h => ?_) (fun h => ?_)
      · have ht : (b2 + s2 - 1) / s2 * s2 ≤ e2' := of_decide_eq_true h
        have hF := first_direct (p := p) s20 b20 e2p ht
        exact fun H4 e4 => ⟨_, rfl, _, rfl, d, l, p, s2, b2, e2', _, rfl, ⟨xs, e4 d _ hxs, hT.ex e4⟩, L2', p0, hF, lP, fun k' H5 hk e5 => k k' H5 hk ((e2.trans e4).trans e5)⟩
      · have ht : e2' < (b2 + s2 - 1) / s2 * s2 := by have := of_decide_eq_false h; omega
        obtain ⟨hq, hb1, hbe1⟩ := same_block s20 b2e ht
        have he1 := Int.emod_lt_of_pos e2' s20
        have hn0 := Int.emod_nonneg (-p) (show s2 ≠ 0 by omega)
        have hn1 := Int.emod_lt_of_pos (-p) s20
        have hxl : xs.length = l.length := by rw [hT.1, List.length_map]
        have h2n : (2 : Int) ^ l.length ≤ P0 := by
          have : (2 : Int) ^ l.length * 1 ≤ 2 ^ l.length * p := Int.mul_le_mul_of_nonneg_left (by omega) (Int.le_of_lt (Int.pow_pos (by omega)))
          omega
        have hl8 := pow_small h2n lP
        refine g_appU hxs (ev_var rfl) (eu_tup (ea_cons (ev_var rfl) (ea_cons (ev_var rfl) (ea_cons (ev_var rfl) ea_nil))) (by show 3 ≤ 100000; decide)) (by omega) ?_
        intro q H3 nq e4 hq'
        refine g_asg4 (eu_tup (ea_cons (ev_var rfl) (ea_cons (ev_op (ev_un (ev_var rfl) ru_neg) (ev_var rfl) (rv_I s20)) (ea_cons (ev_op (ev_var rfl) (ev_var rfl) (rv_I s20)) (ea_cons (ev_op (ev_var rfl) (ev_var rfl) (rv_I s20)) ea_nil)))) (by show 4 ≤ 100000; decide)) (g_next fun H4 e5 => ⟨⟨l ++ [(p, s2, b2)], s2, -p % s2, b2 % s2, e2' % s2, _, rfl, ?_, ?_, .snoc L2' p0 s20 (by omega) b20 e2p b2e ht, s20, by omega, hn0, hn1, by omega, hbe1, he1, hasM_lead s20 hq hM2, ?_⟩, ?_⟩)
        · exact (Ex.mut (e2.trans e4) nd).trans e5
        · refine ⟨xs ++ [.ref q], e5 d _ upd_same, ?_⟩
          rw [List.map_append]
          refine TupsAt.ex ?_ e5
          have nqd : q ≠ d := fun z => by rw [z, hxs] at nq; cases nq
          exact ((hT.ex e4).upd (e4 d _ hxs)).snoc (by rw [upd_ne nqd]; exact hq')
        · rw [List.length_append]
          show (2 : Int) ^ (l.length + 1) * s2 ≤ P0
          rw [Int.pow_succ, Int.mul_assoc]
          have : (2 : Int) ^ l.length * (2 * s2) ≤ 2 ^ l.length * p := Int.mul_le_mul_of_nonneg_left (by omega) (Int.le_of_lt (Int.pow_pos (by omega)))
          omega
        · show (-p % s2).toNat < s.toNat
          omega
    · have hb0 : b = 0 := by have := of_decide_eq_false hb; omega
      subst hb0
      exact fun H4 e4 => ⟨_, rfl, d, l, p, s, 0, e, 0, rfl, ⟨xs, e4 d _ hxs, hT.ex e4⟩, L, p0, first_zero (Int.le_refl _) be, lP, fun k' H5 hk e5 => k k' H5 hk ((e2.trans e4).trans e5)⟩
abbrev s_first : Stmt := topS 23
theorem sc_first : FnScope ["places", "step", "begin", "end", "by"] ["places", "step", "begin", "end"] (defScope s_first) := ⟨rfl, rfl, rfl, by decide +kernel, rfl, by decide +kernel, by decide +kernel⟩
/-- how the first comes: an error, nobody, a mark -/
def spFirst (K : PySem.W.Frag) (c : Cs) (CF CN : Addr) : Sp := fun vs H Q E => ∃ p s b e, vs = [p, s, b, e] ∧ Kn K H p ∧ Kn K H s ∧ Kn K H b ∧ Kn K H e ∧ (∀ C, ringO c p s = .err C → ∀ H', Ex H H' → E (.ref C) none H') ∧
  (∀ v, ringO c p s = .val v → (∀ C, stretchO c p b e = .err C → ∀ H', Ex H H' → E (.ref C) none H') ∧
    (∀ v, stretchO c p b e = .val v → (¬ HasM (G (iv p) (iv s)) (iv b) (iv e) → ∀ x H', H x = none → Ex H H' → AnsAt H' CN x "common" (G (iv p) (iv s)) → Q (.ref x) H') ∧
      (HasM (G (iv p) (iv s)) (iv b) (iv e) → ∀ x k H', FirstIn (iv p) (iv s) (iv b) (iv e) k → H x = none → Ex H H' → AnsAt H' CF x "mark" k → Q (.ref x) H')))
theorem ok_first {c : Cs} {CF CN : Addr} (F : Fun K "first" "first" s_first f fd) (G_check_ring : FnOk P w K mg base (L2.CX P w) 2 f1 fd1 ["places", "step"] (spRing K c)) (A_check_ring : At K mg "check_ring" s_check_ring ["places", "step"] f1 fd1)
    (G_check_stretch : FnOk P w K mg base (L2.CX P w) 2 f2 fd2 ["places", "begin", "end"] (spStretch K c)) (A_check_stretch : At K mg "check_stretch" s_check_stretch ["places", "begin", "end"] f2 fd2)
    (G_common : FnOk P w K mg base CX0 1 f3 fd3 ["one", "other"] spCommon) (A_common : At K mg "common" s_common ["one", "other"] f3 fd3) (G_least_mark : FnOk P w K mg base CX0 2 f4 fd4 ["places", "step", "begin", "end"] spLeast) (A_least_mark : At K mg "least_mark" s_least_mark ["places", "step", "begin", "end"] f4 fd4)
    (M_First : Mk K CF f5) (G_First___init__ : FnOk P w K mg base CX0 1 f5 fd5 ["self", "mark"] (spIni CF "mark")) (M_First_g : mg "First" = some (.ref CF)) (B_First___init__ : Binds K fd5 ["self", "mark"] [])
    (M_Never : Mk K CN f6) (G_Never___init__ : FnOk P w K mg base CX0 1 f6 fd6 ["self", "common"] (spIni CN "common")) (M_Never_g : mg "Never" = some (.ref CN)) (B_Never___init__ : Binds K fd6 ["self", "common"] []) :
    FnOk P w K mg base (L2.CX P w) 3 f fd ["places", "step", "begin", "end"] (spFirst K c CF CN) := by
  refine F.okX sc_first (fun vs H Q E h => ?_) (fun cdv A outer s H vs Q E hr h => ?_)
  · obtain ⟨p, s, b, e, rfl, _⟩ := h
    rfl
  · obtain ⟨p, s, b, e, rfl, h1, h2, h3, h4, k1, k2⟩ := h
    refine ⟨_, (pss_cons (ps_expr (pe_call G_check_ring (hr.mono (by omega)) rfl A_check_ring.g A_check_ring.fn.kp A_check_ring.b .nil (passes_call (takes_of rfl rfl rfl rfl) (fun _ _ _ _ h => h)) (pa_cons (pv 0) (pa_cons (pv 1) pa_nil))))
      (pss_cons (ps_expr (pe_call G_check_stretch (hr.mono (by omega)) rfl A_check_stretch.g A_check_stretch.fn.kp A_check_stretch.b .nil (passes_call (takes_of rfl rfl rfl rfl) (fun _ _ _ _ h => h)) (pa_cons (pv 0) (pa_cons (pv 2) (pa_cons (pv 3) pa_nil)))))
      (pss_cons (ps_set (i := 4) sc_first.nd rfl (Or.inl rfl) (pe_call G_common (hr.mono (by omega)) rfl A_common.g A_common.fn.kp A_common.b .nil pass0 (pa_cons (pv 0) (pa_cons (pv 1) pa_nil))))
      (pss_cons (ps_if (pt_cmpR op_lt (pe_op op_mulB (pe_op op_fdivW (pv 3) (pv 4)) (pv 4)) (pv 2) (nomark _)) (pss_cons (ps_ret (pe_make M_Never G_Never___init__ (hr.mono (by omega)) rfl M_Never_g B_Never___init__ .nil pass0 (pa_cons (pv 4) pa_nil)))
      pss_nil) pss_nil)
      (pss_cons (ps_ret (pe_make M_First G_First___init__ (hr.mono (by omega)) rfl M_First_g B_First___init__ .nil pass0 (pa_cons (pe_call G_least_mark (hr.mono (by omega)) rfl A_least_mark.g A_least_mark.fn.kp A_least_mark.b .nil pass0 (pa_cons (pv 0) (pa_cons (pv 1) (pa_cons (pv 2) (pa_cons (pv 3) pa_nil))))) pa_nil)))
      pss_nil))))), Go.at ?_⟩
    refine g_dropX (evx_call (ea_cons (ev_var rfl) (ea_cons (ev_var rfl) ea_nil)) (spx_ring h1 h2)) (fun v hv => ?_) (fun C hC H1 x => k1 C hC H1 x)
    obtain ⟨k3, k4⟩ := k2 v hv
    obtain ⟨rfl, P', S', rfl, rfl, R⟩ := ringO_val hv
    refine g_dropX (evx_call (ea_cons (ev_var rfl) (ea_cons (ev_var rfl) (ea_cons (ev_var rfl) ea_nil))) (spx_stretch h3 h4)) (fun v hv2 => ?_) (fun C hC H1 x => k3 C hC H1 x)
    obtain ⟨k5, k6⟩ := k4 v hv2
    obtain ⟨rfl, B, E', rfl, rfl, b0, be, ep⟩ := stretchO_val hv2
    have ep : E' < P' := ep
    have p1 := R.p
    have lp : Lv 1 P' := h1
    have lE : Lv 1 E' := h4
    have g0 : 0 < G P' S' := G_pos (by omega)
    have lG := lv_G R lp
    have lEG : Lv 1 (E' / G P' S') := lv_div lE g0
    refine g_asg (ev_call1 (ea_cons (ev_var rfl) (ea_cons (ev_var rfl) ea_nil)) (spv_common (by omega) R.s0)) ?_
    refine g_when (et_test (ev_op (ev_op (ev_op (ev_var rfl) (ev_var rfl) (rv_I (div_ok g0 lG))) (ev_var rfl) (rv_I (mul_ok lEG lG (by decide) (by decide)))) (ev_var rfl) rv_I0)) (fun h => ?_) (fun h => ?_)
    · have hn : ¬ HasM (G P' S') B E' := fun z => by
        have := (hasM_iff g0).mp z
        have h2 : E' / G P' S' * G P' S' < B := of_decide_eq_true h
        omega
      refine fun H1 e1 => ev_make (H := H1) (ea_cons (ev_var rfl) ea_nil) H1 (Ex.refl H1) _ fun x H2 nx e2 hx => ?_
      exact k5 hn x H2 (fresh_back e1 nx) (e1.trans e2) hx
    · have hn : HasM (G P' S') B E' := by
        refine (hasM_iff g0).mpr ?_
        have h2 : ¬ E' / G P' S' * G P' S' < B := of_decide_eq_false h
        omega
      refine fun H1 e1 => ⟨_, rfl, _, rfl, _, rfl, _, rfl, P', S', B, E', rfl, R, b0, be, ep, hn, lp, fun k H2 hk e2 => ?_⟩
      refine ev_make (v := .int k) (H := H2) (ta := tCons (tC (.int k)) tNil) (σ := []) (E := E) (ea_cons ev_c ea_nil) H2 (Ex.refl H2) _ fun x H3 nx e3 hx => ?_
      exact k6 hn x k H3 hk (fresh_back (e1.trans e2) nx) ((e1.trans e2).trans e3) hx
/-! ### first, asked well -/
def spFirstQ (K : PySem.W.Frag) (c : Cs) (CF CN : Addr) : Sp := fun vs H Q _ => spFirst K c CF CN vs H Q E0
/-- what first hands back -/
def FirstR (CF CN : Addr) (p s b e : Int) (v : V) (H : Hp) : Prop := ∃ x, v = .ref x ∧ ((¬ HasM (G p s) b e ∧ AnsAt H CN x "common" (G p s)) ∨ (HasM (G p s) b e ∧ ∃ k, FirstIn p s b e k ∧ AnsAt H CF x "mark" k))
theorem evp_first {c : Cs} {CF CN : Addr} {σ : L2.St} {H : Hp} {ta : TA} {E : XK} {p s b e : Int} (R : Ring p s) (l : Lv 1 p) (b0 : 0 ≤ b) (be : b ≤ e) (ep : e < p) (h : EvA ta σ H [.int p, .int s, .int b, .int e]) : EvP (tCall (spFirstQ K c CF CN) [] E ta) σ H (FirstR CF CN p s b e) := fun H1 x Q q =>
  h H1 x _ fun H2 x2 => by
    refine ⟨.int p, .int s, .int b, .int e, rfl, l, R.ls l, lv_le l b0 (by omega), lv_le l (by omega) (by omega), fun C hC => ?_, fun v _ => ⟨fun C hC => ?_, fun v _ => ⟨fun hn y H3 _ x3 ha => q _ H3 (x2.trans x3) ⟨y, rfl, .inl ⟨hn, ha⟩⟩, fun hm y k H3 hk _ x3 ha => q _ H3 (x2.trans x3) ⟨y, rfl, .inr ⟨hm, k, hk, ha⟩⟩⟩⟩⟩
    · rw [ringO_ok R] at hC; cases hC
    · rw [stretchO_ok b0 be (show e < iv (.int p) from ep)] at hC; cases hC
/-! ### the law -/
def spCountQ (K : PySem.W.Frag) (c : Cs) : Sp := fun vs H Q _ => spCount K c vs H Q E0
abbrev s__law_row : Stmt := topS 29
theorem sc__law_row : FnScope ["_law_many", "_law_low", "_law_high", "_law_turn"] ["_law_many"] (defScope s__law_row) := ⟨rfl, rfl, rfl, by decide +kernel, rfl, by decide +kernel, by decide +kernel⟩
def spRow : Sp := fun vs H Q _ => ∃ n : Nat, vs = [.int n] ∧ n ≤ 100000 ∧ ∀ q H', H q = none → Ex H H' → H' q = some (.tup [.int (row n).1, .int (row n).2]) → Q (.ref q) H'
theorem eu_row {σ : L2.St} {H : Hp} {ta : TA} {E : XK} {n : Int} (h0 : 0 ≤ n) (hn : n ≤ 100000) (h : EvA ta σ H [.int n]) : EvU (tCall spRow [] E ta) σ H [.int (row n.toNat).1, .int (row n.toNat).2] := fun H1 e Q q =>
  h H1 e _ fun H2 e2 => by
    have e1 : ((n.toNat : Nat) : Int) = n := by omega
    exact ⟨n.toNat, by rw [e1]; rfl, by omega, fun p H3 np e3 hp => q p H3 (fresh_back e2 np) (e2.trans e3) hp⟩
theorem ok__law_row (hA : Blt mg) (F : Fun K "_law_row" "_law_row" s__law_row f fd) : FnOk P w K mg base CX0 1 f fd ["_law_many"] spRow := by
  refine F.ok sc__law_row (fun vs H Q E h => ?_) (fun cdv A outer s H vs Q E hr h => ?_)
  · obtain ⟨n, rfl, _⟩ := h
    rfl
  · obtain ⟨n, rfl, hn, k⟩ := h
    refine ⟨_, (pss_cons (ps_asg (pe_tup (pa_cons pe_int (pa_cons pe_int pa_nil))) (pg_tup rfl (pgs_cons (pg_name (i := 1) sc__law_row.nd rfl (Or.inl rfl)) (pgs_cons (pg_name (i := 2) sc__law_row.nd rfl (Or.inl rfl)) pgs_nil))))
      (pss_cons (ps_for PassesOwn.never rfl (pi_range1 rfl hA.z_range (pa_cons (pv 0) pa_nil)) (pg_name (i := 3) sc__law_row.nd rfl (Or.inl rfl)) (pss_cons (ps_par (i := 1) (j := 2) (by rfl) sc__law_row.nd rfl rfl (by decide) rfl rfl (pa_cons (pv 2) (pa_cons (pe_op op_add (pv 1) (pv 2)) pa_nil)) (by rfl))
      pss_nil))
      (pss_cons (ps_ret (pe_tup (pa_cons (pv 1) (pa_cons (pv 2) pa_nil))))
      pss_nil))), Go.at ?_⟩
    refine g_asg2 (eu_tup (ea_cons ev_c (ea_cons ev_c ea_nil)) (by show 2 ≤ 100000; decide)) ?_
    refine g_for (ef_range (n := (n : Int)) (ea_cons (ev_var rfl) ea_nil) (by omega) (by omega)) (fun i σ' => ∃ o : Option V, σ' = [some (.int (n : Int)), some (.int (row i).1), some (.int (row i).2), o]) ⟨_, rfl⟩ ?_ ?_
    · rintro H2 e2 i σ' hi ⟨o, rfl⟩
      exact g_par (ea_cons (ev_var rfl) (ea_cons (ev_op (ev_var rfl) (ev_var rfl) rv_I0) ea_nil)) (g_next fun H' e => ⟨e, _, rfl⟩)
    · rintro H2 e2 σ' ⟨o, rfl⟩
      have e1 : ((n : Int)).toNat = n := by omega
      rw [e1]
      exact g_retU (eu_tup (ea_cons (ev_var rfl) (ea_cons (ev_var rfl) ea_nil)) (by show 2 ≤ 100000; decide)) fun q H3 nq e3 hq => k q H3 (fresh_back e2 nq) (e2.trans e3) hq
abbrev s__law_sum : Stmt := topS 30
theorem sc__law_sum : FnScope ["_law_many", "_law_by", "_law_times", "_law_more", "_law_found", "_law_last"] ["_law_many", "_law_by", "_law_times", "_law_more"] (defScope s__law_sum) := ⟨rfl, rfl, rfl, by decide +kernel, rfl, by decide +kernel, by decide +kernel⟩
def spSum : Sp := fun vs H Q _ => ∃ (k : Nat) (b t m : Int), vs = [.int k, .int b, .int t, .int m] ∧ 0 < b ∧ 0 ≤ t ∧ 0 ≤ m ∧ Lv 1 k ∧ Lv 1 b ∧ Lv 1 t ∧ Lv 1 m ∧ ∀ H', Ex H H' → Q (.int (S k b t m)) H'
theorem spv_sum {H : Hp} {k b t m : Int} (h0 : 0 ≤ k) (h1 : 0 < b) (h2 : 0 ≤ t) (h3 : 0 ≤ m) (l1 : Lv 1 k) (l2 : Lv 1 b) (l3 : Lv 1 t) (l4 : Lv 1 m) : SpV spSum [.int k, .int b, .int t, .int m] H (.int (S k.toNat b t m)) := fun H1 e Q q E => by
  have e1 : ((k.toNat : Nat) : Int) = k := by omega
  exact ⟨k.toNat, b, t, m, by rw [e1], h1, h2, h3, by rw [e1]; exact l1, l2, l3, l4, q⟩
theorem ok__law_sum (F : Fun K "_law_sum" "_law_sum" s__law_sum f fd) : FnOk P w K mg base CX0 1 f fd ["_law_many", "_law_by", "_law_times", "_law_more"] spSum := by
  refine F.ok sc__law_sum (fun vs H Q E h => ?_) (fun cdv A outer s H vs Q E hr h => ?_)
  · obtain ⟨k, b, t, m, rfl, _⟩ := h
    rfl
  · obtain ⟨n, m, a, b, rfl, hm, ha, hb, l1, l2, l3, l4, k⟩ := h
    refine ⟨_, (pss_cons (ps_set (i := 4) sc__law_sum.nd rfl (Or.inl rfl) pe_int)
      (pss_cons (ps_while PassesOwn.never (pt_cmpR op_gt (pv 0) pe_int (nomark _)) (pss_cons (ps_set (i := 4) sc__law_sum.nd rfl (Or.inl rfl) (pe_op op_add (pv 4) (pe_op op_mulB (pe_op op_fdivW (pe_op op_mulB (pv 0) (pe_op op_sub (pv 0) pe_int)) pe_int) (pe_op op_fdivW (pv 2) (pv 1)))))
      (pss_cons (ps_set (i := 4) sc__law_sum.nd rfl (Or.inl rfl) (pe_op op_add (pv 4) (pe_op op_mulB (pv 0) (pe_op op_fdivW (pv 3) (pv 1)))))
      (pss_cons (ps_par (i := 2) (j := 3) (by rfl) sc__law_sum.nd rfl rfl (by decide) rfl rfl (pa_cons (pe_op op_mod (pv 2) (pv 1)) (pa_cons (pe_op op_mod (pv 3) (pv 1)) pa_nil)) (by rfl))
      (pss_cons (ps_set (i := 5) sc__law_sum.nd rfl (Or.inl rfl) (pe_op op_add (pe_op op_mulB (pv 2) (pv 0)) (pv 3)))
      (pss_cons (ps_asg (pe_tup (pa_cons (pe_op op_fdivW (pv 5) (pv 1)) (pa_cons (pv 2) (pa_cons (pv 1) (pa_cons (pe_op op_mod (pv 5) (pv 1)) pa_nil))))) (pg_tup rfl (pgs_cons (pg_name (i := 0) sc__law_sum.nd rfl (Or.inl rfl)) (pgs_cons (pg_name (i := 1) sc__law_sum.nd rfl (Or.inl rfl)) (pgs_cons (pg_name (i := 2) sc__law_sum.nd rfl (Or.inl rfl)) (pgs_cons (pg_name (i := 3) sc__law_sum.nd rfl (Or.inl rfl)) pgs_nil))))))
      pss_nil))))))
      (pss_cons (ps_ret (pv 4))
      pss_nil))), Go.at ?_⟩
    refine g_asg ev_c ?_
    refine g_while (fun σ => ∃ (n' : Nat) (m' a' b' t : Int) (l : Option V), σ = [some (.int n'), some (.int m'), some (.int a'), some (.int b'), some (.int t), l] ∧ (0 < n' → 0 < m') ∧ 0 ≤ a' ∧ 0 ≤ b' ∧ Lv 1 n' ∧ Lv 1 m' ∧ Lv 1 a' ∧ Lv 1 b' ∧ t + S n' m' a' b' = S n m a b)
      (fun σ => match σ with | some (.int n') :: some (.int m') :: _ => if 0 < n' then m'.toNat + 1 else 0 | _ => 0) ⟨n, m, a, b, 0, none, rfl, fun _ => hm, ha, hb, l1, l2, l3, l4, by omega⟩ ?_
    rintro σ ⟨n', m', a', b', t, l, rfl, hm', ha', hb', ln, lm, la, lb, hT⟩
    refine ⟨_, et_test (ev_op (ev_var rfl) ev_c rv_I0), fun h => ?_, fun h => ?_⟩
    · have hn : 0 < (n' : Int) := of_decide_eq_true h
      have hm' := hm' (by omega)
      refine g_asg (ev_op (ev_var rfl) (ev_op (ev_op (ev_op (ev_var rfl) (ev_op (ev_var rfl) ev_c rv_I0) (rv_I (mul_ok ln (lv_sub ln (lv_small (by decide))) (by decide) (by decide)))) ev_c (rv_I (div_ok (by decide) (lv_small (by decide)))))
        (ev_op (ev_var rfl) (ev_var rfl) (rv_I (div_ok hm' lm))) (rv_I (mul_ok (lv_div (lv_mul ln (lv_sub ln (lv_small (by decide)))) (by decide)) (lv_div la hm') (by decide) (by decide)))) rv_I0) ?_
      refine g_asg (ev_op (ev_var rfl) (ev_op (ev_var rfl) (ev_op (ev_var rfl) (ev_var rfl) (rv_I (div_ok hm' lm))) (rv_I (mul_ok ln (lv_div lb hm') (by decide) (by decide)))) rv_I0) ?_
      refine g_par (ea_cons (ev_op (ev_var rfl) (ev_var rfl) (rv_I hm')) (ea_cons (ev_op (ev_var rfl) (ev_var rfl) (rv_I hm')) ea_nil)) ?_
      refine g_asg (ev_op (ev_op (ev_var rfl) (ev_var rfl) (rv_I (mul_ok (lv_mod lm hm') ln (by decide) (by decide)))) (ev_var rfl) rv_I0) ?_
      have red := S_red n' m' a' b' hm'
      have a0 := Int.emod_nonneg a' (show m' ≠ 0 by omega)
      have a1 := Int.emod_lt_of_pos a' hm'
      have b0 := Int.emod_nonneg b' (show m' ≠ 0 by omega)
      have b1 := Int.emod_lt_of_pos b' hm'
      have x0 : 0 ≤ a' % m' * (n' : Int) := Int.mul_nonneg a0 (by omega)
      have q0 : 0 ≤ (a' % m' * (n' : Int) + b' % m') / m' := Int.ediv_nonneg (by omega) (by omega)
      have qn : (a' % m' * (n' : Int) + b' % m') / m' ≤ n' := by
        have : (a' % m' * (n' : Int) + b' % m') / m' < n' + 1 := by
          refine Int.ediv_lt_of_lt_mul hm' ?_
          have h2 : a' % m' * (n' : Int) ≤ (m' - 1) * n' := Int.mul_le_mul_of_nonneg_right (by omega) (by omega)
          have h3 : (m' - 1) * (n' : Int) = m' * n' - n' := by rw [Int.sub_mul, Int.one_mul]
          have h4 : ((n' : Int) + 1) * m' = m' * n' + m' := by rw [Int.add_mul, Int.one_mul, Int.mul_comm]
          omega
        omega
      have ap : 0 < (a' % m' * (n' : Int) + b' % m') / m' → 0 < a' % m' := fun h1 => by
        rcases Int.lt_or_le 0 (a' % m') with q | q
        · exact q
        · have : a' % m' = 0 := by omega
          rw [this, Int.zero_mul, Int.ediv_eq_zero_of_lt (by omega) (by omega)] at h1
          omega
      have key : S n' m' (a' % m') (b' % m') = S ((a' % m' * (n' : Int) + b' % m') / m').toNat (a' % m') m' ((a' % m' * (n' : Int) + b' % m') % m') := by
        by_cases z : 0 < a' % m'
        · exact S_flip n' m' (a' % m') (b' % m') z a1 b0 b1
        · have z0 : a' % m' = 0 := by omega
          rw [z0, Int.zero_mul, Int.zero_add, Int.ediv_eq_zero_of_lt b0 b1, S_zero n' m' 0 (b' % m') hm' (Int.le_refl 0) b0 (by omega)]
          rfl
      obtain ⟨N, hN⟩ : ∃ N : Nat, (a' % m' * (n' : Int) + b' % m') / m' = N := ⟨((a' % m' * (n' : Int) + b' % m') / m').toNat, by omega⟩
      have eN : ((a' % m' * (n' : Int) + b' % m') / m').toNat = N := by omega
      rw [eN] at key
      refine g_asg4 (eu_tup (ea_cons (ev_is (ev_op (ev_var rfl) (ev_var rfl) (rv_I (div_ok hm' lm))) (congrArg V.int hN)) (ea_cons (ev_var rfl) (ea_cons (ev_var rfl) (ea_cons (ev_op (ev_var rfl) (ev_var rfl) (rv_I hm')) ea_nil)))) (by show 4 ≤ 100000; decide)) (g_next fun H' e => ⟨e, ⟨N, a' % m', m', (a' % m' * (n' : Int) + b' % m') % m', t + n' * (n' - 1) / 2 * (a' / m') + n' * (b' / m'), some (.int (a' % m' * (n' : Int) + b' % m')), rfl, fun hN0 => ap (by omega), by omega, Int.emod_nonneg _ (by omega), lv_le ln (by omega) (by omega), lv_mod lm hm', lm, lv_mod lm hm', ?_⟩, ?_⟩)
      · rw [← key, ← hT, red]
        omega
      · show (if (0 : Int) < (N : Int) then (a' % m').toNat + 1 else 0) < if (0 : Int) < (n' : Int) then m'.toNat + 1 else 0
        rw [if_pos hn]
        split <;> omega
    · have hn0 : n' = 0 := by have := of_decide_eq_false h; omega
      subst hn0
      refine g_ret (v := .int (S n m a b)) (ev_is (ev_var rfl) ?_) k
      rw [← hT]
      show V.int t = V.int (t + 0)
      rw [Int.add_zero]
abbrev s__law_to : Stmt := topS 31
theorem sc__law_to : FnScope ["_law_places", "_law_step", "_law_marks", "_law_place", "_law_all_of"] ["_law_places", "_law_step", "_law_marks", "_law_place"] (defScope s__law_to) := ⟨rfl, rfl, rfl, by decide +kernel, rfl, by decide +kernel, by decide +kernel⟩
def spTo : Sp := fun vs H Q _ => ∃ p s n x : Int, vs = [.int p, .int s, .int n, .int x] ∧ Ring p s ∧ 0 ≤ n ∧ x < p ∧ Lv 1 p ∧ Lv 1 n ∧ ∀ H', Ex H H' → Q (.int (RS.cnt p s n.toNat x)) H'
theorem spv_to {H : Hp} {p s n x : Int} (R : Ring p s) (h0 : 0 ≤ n) (h : x < p) (l : Lv 1 p) (l2 : Lv 1 n) : SpV spTo [.int p, .int s, .int n, .int x] H (.int (RS.cnt p s n.toNat x)) := fun H1 e Q q E => ⟨p, s, n, x, rfl, R, h0, h, l, l2, q⟩
theorem ok__law_to (F : Fun K "_law_to" "_law_to" s__law_to f fd) (G__law_sum : FnOk P w K mg base CX0 1 f1 fd1 ["_law_many", "_law_by", "_law_times", "_law_more"] spSum) (A__law_sum : At K mg "_law_sum" s__law_sum ["_law_many", "_law_by", "_law_times", "_law_more"] f1 fd1) : FnOk P w K mg base CX0 2 f fd ["_law_places", "_law_step", "_law_marks", "_law_place"] spTo := by
  refine F.ok sc__law_to (fun vs H Q E h => ?_) (fun cdv A outer s H vs Q E hr h => ?_)
  · obtain ⟨p, s, n, x, rfl, _⟩ := h
    rfl
  · obtain ⟨p, s, n, x, rfl, R, hn, hx, lp, ln, k⟩ := h
    have p1 := R.p
    refine ⟨_, (pss_cons (ps_if (pt_cmpR op_lt (pv 3) pe_int (nomark _)) (pss_cons (ps_ret pe_int)
      pss_nil) pss_nil)
      (pss_cons (ps_set (i := 4) sc__law_to.nd rfl (Or.inl rfl) (pe_call G__law_sum (hr.mono (by omega)) rfl A__law_sum.g A__law_sum.fn.kp A__law_sum.b .nil pass0 (pa_cons (pv 2) (pa_cons (pv 0) (pa_cons (pv 1) (pa_cons pe_int pa_nil))))))
      (pss_cons (ps_ret (pe_op op_sub (pe_op op_add (pv 2) (pv 4)) (pe_call G__law_sum (hr.mono (by omega)) rfl A__law_sum.g A__law_sum.fn.kp A__law_sum.b .nil pass0 (pa_cons (pv 2) (pa_cons (pv 0) (pa_cons (pv 1) (pa_cons (pe_op op_sub (pe_op op_sub (pv 0) (pv 3)) pe_int) pa_nil)))))))
      pss_nil))), Go.at ?_⟩
    refine g_when (et_test (ev_op (ev_var rfl) ev_c rv_I0)) (fun h => ?_) (fun h => ?_)
    · have h : x < 0 := of_decide_eq_true h
      refine g_ret (v := .int (RS.cnt p s n.toNat x)) (ev_is ev_c ?_) k
      rw [cnt_neg p s n.toNat x (by omega) h]
    · have h : ¬ x < 0 := of_decide_eq_false h
      refine g_asg (ev_call1 (ea_cons (ev_var rfl) (ea_cons (ev_var rfl) (ea_cons (ev_var rfl) (ea_cons ev_c ea_nil)))) (spv_sum hn (by omega) R.s0 (by decide) ln lp (R.ls lp) (lv_small (by decide)))) ?_
      refine g_ret (v := .int (RS.cnt p s n.toNat x)) (ev_is (ev_op (ev_op (ev_var rfl) (ev_var rfl) rv_I0)
        (ev_call1 (ea_cons (ev_var rfl) (ea_cons (ev_var rfl) (ea_cons (ev_var rfl) (ea_cons (ev_op (ev_op (ev_var rfl) (ev_var rfl) rv_I0) ev_c rv_I0) ea_nil)))) (spv_sum hn (by omega) R.s0 (by omega) ln lp (R.ls lp) (lv_le lp (by omega) (by omega)))) rv_I0) ?_) k
      rw [← cnt_S' p s n.toNat x (by omega) hx]
      have e1 : ((n.toNat : Nat) : Int) = n := by omega
      rw [e1]
abbrev s__law_first_right : Stmt := topS 32
theorem sc__law_first_right : FnScope ["_law_places", "_law_step", "_law_begin", "_law_end", "_law_found", "_law_mark"] ["_law_places", "_law_step", "_law_begin", "_law_end"] (defScope s__law_first_right) := ⟨rfl, rfl, rfl, by decide +kernel, rfl, by decide +kernel, by decide +kernel⟩
def spFR9 : Sp := fun vs H Q _ => ∃ p s b e : Int, vs = [.int p, .int s, .int b, .int e] ∧ Ring p s ∧ Lv 1 p ∧ 0 ≤ b ∧ b ≤ e ∧ e < p ∧ HasM (G p s) b e ∧ ∀ H', Ex H H' → Q (.bl true) H'
theorem spv_FR9 {H : Hp} {p s b e : Int} (R : Ring p s) (l : Lv 1 p) (b0 : 0 ≤ b) (be : b ≤ e) (ep : e < p) (hm : HasM (G p s) b e) : SpV spFR9 [.int p, .int s, .int b, .int e] H (.bl true) := fun H1 x Q q E => ⟨p, s, b, e, rfl, R, l, b0, be, ep, hm, q⟩
theorem ok__law_first_right {c : Cs} {CF CN : Addr} (iF : InsI K CF) (na : NoAttr K CF "mark") (kFF : PySem.W.kitOne K (.ref CF) (.ref CF) = some true) (hA : Blt mg) (F : Fun K "_law_first_right" "_law_first_right" s__law_first_right f fd) (G__law_to : FnOk P w K mg base CX0 2 f1 fd1 ["_law_places", "_law_step", "_law_marks", "_law_place"] spTo) (A__law_to : At K mg "_law_to" s__law_to ["_law_places", "_law_step", "_law_marks", "_law_place"] f1 fd1)
    (G_first : FnOk P w K mg base CX0 3 f2 fd2 ["places", "step", "begin", "end"] (spFirstQ K c CF CN)) (A_first : At K mg "first" s_first ["places", "step", "begin", "end"] f2 fd2)
    (M_First : Mk K CF f5) (G_First___init__ : FnOk P w K mg base CX0 1 f5 fd5 ["self", "mark"] (spIni CF "mark")) (M_First_g : mg "First" = some (.ref CF)) (B_First___init__ : Binds K fd5 ["self", "mark"] [])
    (Me_First : Meth K CF "shows" f6) (G_First_shows : FnOk P w K mg base CX0 3 f6 fd6 ["self", "places", "step", "begin", "end"] (spShF CF)) (B_First_shows : Binds K fd6 ["self", "places", "step", "begin", "end"] []) : FnOk P w K mg base CX0 4 f fd ["_law_places", "_law_step", "_law_begin", "_law_end"] spFR9 := by
  have Cl_First := iF.cl
  refine F.ok sc__law_first_right (fun vs H Q E h => ?_) (fun cdv A outer s H vs Q E hr h => ?_)
  · obtain ⟨p, s, b, e, rfl, _⟩ := h
    rfl
  · obtain ⟨p, s, b, e, rfl, R, lp, b0, be, ep, hm, k⟩ := h
    have p1 := R.p
    have ls := R.ls lp
    refine ⟨_, (pss_cons (ps_set (i := 4) sc__law_first_right.nd rfl (Or.inl rfl) (pe_call G_first (hr.mono (by omega)) rfl A_first.g A_first.fn.kp A_first.b .nil pass0 (pa_cons (pv 0) (pa_cons (pv 1) (pa_cons (pv 2) (pa_cons (pv 3) pa_nil))))))
      (pss_cons (ps_if (PW.pt (pw_or (pt_not (pt_val (pe_callB call_isi rfl hA.z_isinstance (by decide +kernel) (pa_cons (pv 4) (pa_cons (pe_glob (v := .ref _) rfl M_First_g rfl) pa_nil))))) (pw_or (pt_val (pe_callB call_isi rfl hA.z_isinstance (by decide +kernel) (pa_cons (pe_fld (pv 4) rfl) (pa_cons (pe_bltn (v := .ty "bool") (u := .type "bool") rfl hA.z_bool (by decide +kernel) rfl) pa_nil)))) (pw_or1 (pt_not (pt_val (pe_callB call_isi rfl hA.z_isinstance (by decide +kernel) (pa_cons (pe_fld (pv 4) rfl) (pa_cons (pe_bltn (v := .ty "int") (u := .type "int") rfl hA.z_int (by decide +kernel) rfl) pa_nil))))))))) (pss_cons (ps_ret pe_bl)
      pss_nil) pss_nil)
      (pss_cons (ps_set (i := 5) sc__law_first_right.nd rfl (Or.inl rfl) (pe_fld (pv 4) rfl))
      (pss_cons (ps_if (PW.pt (pw_or (pt_cmpR op_lt (pv 5) pe_int (nomark _)) (pw_or1 (pt_not (pt_chain op_le op_le (pv 2) (pe_op op_mod (pe_op op_mulB (pv 5) (pv 1)) (pv 0)) (pv 3)))))) (pss_cons (ps_ret pe_bl)
      pss_nil) pss_nil)
      (pss_cons (ps_if (pt_cmpR op_ne (pe_call G__law_to (hr.mono (by omega)) rfl A__law_to.g A__law_to.fn.kp A__law_to.b .nil pass0 (pa_cons (pv 0) (pa_cons (pv 1) (pa_cons (pv 5) (pa_cons (pv 3) pa_nil))))) (pe_call G__law_to (hr.mono (by omega)) rfl A__law_to.g A__law_to.fn.kp A__law_to.b .nil pass0 (pa_cons (pv 0) (pa_cons (pv 1) (pa_cons (pv 5) (pa_cons (pe_op op_sub (pv 2) pe_int) pa_nil))))) (nomark _)) (pss_cons (ps_ret pe_bl)
      pss_nil) pss_nil)
      (pss_cons (ps_if (pt_cmpR op_notBl (pe_meth (pv 4) Cl_First Me_First G_First_shows (hr.mono (by omega)) B_First_shows .nil pass0 (pa_cons (pv 0) (pa_cons (pv 1) (pa_cons (pv 2) (pa_cons (pv 3) pa_nil))))) pe_bl (nomark _)) (pss_cons (ps_ret pe_bl)
      pss_nil) pss_nil)
      (pss_cons (ps_ret (pe_cmpR op_isBl (pe_meth (pe_make M_First G_First___init__ (hr.mono (by omega)) rfl M_First_g B_First___init__ .nil pass0 (pa_cons (pe_op op_add (pv 5) pe_int) pa_nil)) Cl_First Me_First G_First_shows (hr.mono (by omega)) B_First_shows .nil pass0 (pa_cons (pv 0) (pa_cons (pv 1) (pa_cons (pv 2) (pa_cons (pv 3) pa_nil))))) pe_bl (nomark _)))
      pss_nil))))))), Go.at ?_⟩
    refine g_asgP (evp_first R lp b0 be ep (ea_cons (ev_var rfl) (ea_cons (ev_var rfl) (ea_cons (ev_var rfl) (ea_cons (ev_var rfl) ea_nil))))) ?_
    rintro v H2 e2 ⟨x, rfl, ⟨hn, _⟩ | ⟨_, m, hk, dx, hx⟩⟩
    · exact absurd hm hn
    have hlt := hk.lt (show 0 < p by omega)
    have hnn := hk.nn
    have tl := top_le (p := p) (s := s) (by omega)
    have lm : Lv 1 m := lv_le lp hnn (by omega)
    have hsh := (showsF_iff be).mpr hk
    have h2 := hsh
    unfold showsF at h2
    rw [Bool.and_eq_true, Bool.and_eq_true] at h2
    obtain ⟨⟨_, h3⟩, h4⟩ := h2
    have h4 : inCnt p s m.toNat b e = 0 := of_decide_eq_true h4
    have h5 : RS.cnt p s m.toNat e = RS.cnt p s m.toNat (b - 1) := by unfold inCnt at h4; omega
    refine g_when (b := false) (et_or (a := false) (b := false) (et_not (et_B (ev_isIns (ev_var rfl) hx iF kFF))) fun _ => et_or (a := false) (b := false) (et_B (ev_isBool (x := .int m) (ev_fld (ev_var rfl) hx Cl_First na lk_eq) lm)) fun _ => et_not (et_B (ev_isInt (x := .int m) (ev_fld (ev_var rfl) hx Cl_First na lk_eq) lm))) (fun h => nomatch h) (fun _ => ?_)
    refine g_asg (ev_fld (ev_var rfl) hx Cl_First na lk_eq) ?_
    refine g_when (b := false) (et_is (et_or (et_test (ev_op (ev_var rfl) ev_c rv_I0)) fun _ => et_not (et_test (ev_chainI (ev_var rfl) (ev_op (ev_op (ev_var rfl) (ev_var rfl) (rv_I (mul_ok lm ls (by decide) (by decide)))) (ev_var rfl) (rv_I (show (0 : Int) < p by omega))) (ev_var rfl)))) ?_) (fun h => nomatch h) (fun _ => ?_)
    · show (decide (m < 0) || !(decide (b ≤ m * s % p) && decide (m * s % p ≤ e))) = false
      rw [decide_eq_false (by omega), h3]
      rfl
    refine g_when (b := false) (et_is (et_test (ev_op (ev_call1 (ea_cons (ev_var rfl) (ea_cons (ev_var rfl) (ea_cons (ev_var rfl) (ea_cons (ev_var rfl) ea_nil)))) (spv_to R hnn ep lp lm)) (ev_call1 (ea_cons (ev_var rfl) (ea_cons (ev_var rfl) (ea_cons (ev_var rfl) (ea_cons (ev_op (ev_var rfl) ev_c rv_I0) ea_nil)))) (spv_to R hnn (by omega) lp lm)) (rv_ne rfl))) (ne_same (by rw [h5]))) (fun h => nomatch h) (fun _ => ?_)
    refine g_when (b := false) (et_is (et_test (ev_op (ev_is (ev_meth (ev_var rfl) hx (lk_ne (by decide)) (ea_cons (ev_var rfl) (ea_cons (ev_var rfl) (ea_cons (ev_var rfl) (ea_cons (ev_var rfl) ea_nil)))) (spv_shF ⟨dx, hx⟩ R b0 be ep lp lm)) (congrArg V.bl hsh)) ev_c rv_notB)) rfl) (fun h => nomatch h) (fun _ => ?_)
    have hno : showsF p s b e (m + 1) = false := by
      cases q : showsF p s b e (m + 1) with
      | false => rfl
      | true =>
        have := hk.uniq ((showsF_iff be).mp q)
        omega
    exact g_ret (v := .bl true) (ev_is (ev_op (ev_methMk (ea_cons (ev_op (ev_var rfl) ev_c rv_I0) ea_nil) (by decide) (ea_cons (ev_var rfl) (ea_cons (ev_var rfl) (ea_cons (ev_var rfl) (ea_cons (ev_var rfl) ea_nil)))) fun x' H' _ hx' => by
      have := spv_shF (m := m + 1) hx' R b0 be ep lp (lv_le lp (by omega) (by omega))
      rw [hno] at this
      exact this) ev_c rv_isB) rfl) fun H' e' => k H' (e2.trans e')
abbrev s__law_never_right : Stmt := topS 34
theorem sc__law_never_right : FnScope ["_law_places", "_law_step", "_law_spot", "_law_found"] ["_law_places", "_law_step", "_law_spot"] (defScope s__law_never_right) := ⟨rfl, rfl, rfl, by decide +kernel, rfl, by decide +kernel, by decide +kernel⟩
def spNR9 : Sp := fun vs H Q _ => ∃ p s x : Int, vs = [.int p, .int s, .int x] ∧ Ring p s ∧ Lv 1 (7 * p) ∧ G p s = 1 ∧ 0 ≤ x ∧ x < p ∧ ∀ H', Ex H H' → Q (.bl true) H'
theorem spv_NR9 {H : Hp} {p s x : Int} (R : Ring p s) (l : Lv 1 (7 * p)) (g : G p s = 1) (x0 : 0 ≤ x) (xp : x < p) : SpV spNR9 [.int p, .int s, .int x] H (.bl true) := fun H1 y Q q E => ⟨p, s, x, rfl, R, l, g, x0, xp, q⟩
theorem ok__law_never_right {c : Cs} {CF CN : Addr} (iN : InsI K CN) (na : NoAttr K CN "common") (kNN : PySem.W.kitOne K (.ref CN) (.ref CN) = some true) (hA : Blt mg) (F : Fun K "_law_never_right" "_law_never_right" s__law_never_right f fd)
    (G_first : FnOk P w K mg base CX0 3 f2 fd2 ["places", "step", "begin", "end"] (spFirstQ K c CF CN)) (A_first : At K mg "first" s_first ["places", "step", "begin", "end"] f2 fd2) (M_Never_g : mg "Never" = some (.ref CN))
    (Me_Never : Meth K CN "shows" f6) (G_Never_shows : FnOk P w K mg base CX0 3 f6 fd6 ["self", "places", "step", "begin", "end"] (spShN CN)) (B_Never_shows : Binds K fd6 ["self", "places", "step", "begin", "end"] []) : FnOk P w K mg base CX0 4 f fd ["_law_places", "_law_step", "_law_spot"] spNR9 := by
  have Cl_Never := iN.cl
  refine F.ok sc__law_never_right (fun vs H Q E h => ?_) (fun cdv A outer s H vs Q E hr h => ?_)
  · obtain ⟨p, s, x, rfl, _⟩ := h
    rfl
  · obtain ⟨p, s, x, rfl, R, l7, hg, x0, xp, k⟩ := h
    have p1 := R.p
    have s0 := R.s0
    have s1 := R.s
    have R7 : Ring (7 * p) (7 * s) := ⟨by omega, by omega, by omega⟩
    have g7 := G_mul7 hg
    have lp : Lv 1 p := lv_le l7 (by omega) (by omega)
    have lx : Lv 1 x := lv_le lp (by omega) (by omega)
    have l7' : Lv 1 (7 : Int) := lv_small (by decide)
    have hnd : (7 * x + 6) / 7 * 7 < 7 * x + 1 := by omega
    have a4 : ∀ {σ : L2.St} {H : Hp}, σ[0]? = some (some (.int p)) → σ[1]? = some (some (.int s)) → σ[2]? = some (some (.int x)) → EvA (tCons (tOp (rI CMulB fun i j => .int (i * j)) (tC (.int 7)) (tVar 0)) (tCons (tOp (rI CMulB fun i j => .int (i * j)) (tC (.int 7)) (tVar 1)) (tCons (tOp (rI0 fun i j => .int (i + j)) (tOp (rI CMulB fun i j => .int (i * j)) (tC (.int 7)) (tVar 2)) (tC (.int 1))) (tCons (tOp (rI0 fun i j => .int (i + j)) (tOp (rI CMulB fun i j => .int (i * j)) (tC (.int 7)) (tVar 2)) (tC (.int 6))) tNil)))) σ H [.int (7 * p), .int (7 * s), .int (7 * x + 1), .int (7 * x + 6)] := fun h0 h1 h2 =>
      ea_cons (ev_op ev_c (ev_var h0) (rv_I (mul_ok l7' lp (by decide) (by decide)))) (ea_cons (ev_op ev_c (ev_var h1) (rv_I (mul_ok l7' (R.ls lp) (by decide) (by decide)))) (ea_cons (ev_op (ev_op ev_c (ev_var h2) (rv_I (mul_ok l7' lx (by decide) (by decide)))) ev_c rv_I0) (ea_cons (ev_op (ev_op ev_c (ev_var h2) (rv_I (mul_ok l7' lx (by decide) (by decide)))) ev_c rv_I0) ea_nil)))
    refine ⟨_, (pss_cons (ps_set (i := 3) sc__law_never_right.nd rfl (Or.inl rfl) (pe_call G_first (hr.mono (by omega)) rfl A_first.g A_first.fn.kp A_first.b .nil pass0 (pa_cons (pe_op op_mulB pe_int (pv 0)) (pa_cons (pe_op op_mulB pe_int (pv 1)) (pa_cons (pe_op op_add (pe_op op_mulB pe_int (pv 2)) pe_int) (pa_cons (pe_op op_add (pe_op op_mulB pe_int (pv 2)) pe_int) pa_nil))))))
      (pss_cons (ps_if (PW.pt (pw_or (pt_not (pt_val (pe_callB call_isi rfl hA.z_isinstance (by decide +kernel) (pa_cons (pv 3) (pa_cons (pe_glob (v := .ref _) rfl M_Never_g rfl) pa_nil))))) (pw_or1 (pt_cmpR op_ne (pe_fld (pv 3) rfl) pe_int (nomark _))))) (pss_cons (ps_ret pe_bl)
      pss_nil) pss_nil)
      (pss_cons (ps_ret (pe_cmpR op_isBl (pe_meth (pv 3) Cl_Never Me_Never G_Never_shows (hr.mono (by omega)) B_Never_shows .nil pass0 (pa_cons (pe_op op_mulB pe_int (pv 0)) (pa_cons (pe_op op_mulB pe_int (pv 1)) (pa_cons (pe_op op_add (pe_op op_mulB pe_int (pv 2)) pe_int) (pa_cons (pe_op op_add (pe_op op_mulB pe_int (pv 2)) pe_int) pa_nil))))) pe_bl (nomark _)))
      pss_nil))), Go.at ?_⟩
    refine g_asgP (evp_first R7 l7 (by omega) (by omega) (by omega) (a4 rfl rfl rfl)) ?_
    rintro v H2 e2 ⟨y, rfl, ⟨_, dx, hx⟩ | ⟨hm, _⟩⟩
    · rw [g7] at hx
      refine g_when (b := false) (et_or (a := false) (b := false) (et_not (et_B (ev_isIns (ev_var rfl) hx iN kNN))) fun _ => et_is (et_test (ev_op (ev_fld (ev_var rfl) hx Cl_Never na lk_eq) ev_c (rv_ne rfl))) (ne_same rfl)) (fun h => nomatch h) (fun _ => ?_)
      have hs : showsN (7 * p) (7 * s) (7 * x + 1) (7 * x + 6) 7 = true := by
        unfold showsN
        rw [decide_eq_true (show (1 : Int) ≤ 7 by decide), decide_eq_true (show 7 * p % 7 = 0 by omega), decide_eq_true (show 7 * s % 7 = 0 by omega), decide_eq_true hnd]
        rfl
      exact g_ret (v := .bl true) (ev_is (ev_op (ev_is (ev_meth (ev_var rfl) hx (lk_ne (by decide)) (a4 rfl rfl rfl) (spv_shN ⟨dx, hx⟩ (lv_le l7 (by omega) (by omega)) l7')) (congrArg V.bl hs)) ev_c rv_isB) rfl) fun H' e' => k H' (e2.trans e')
    · rw [g7] at hm
      have := (hasM_iff (by decide)).mp hm
      omega
abbrev s__law_few_right : Stmt := topS 33
theorem sc__law_few_right : FnScope ["_law_places", "_law_step", "_law_marks", "_law_more", "_law_spots", "_law_order", "_law_mark", "_law_low", "_law_high", "_law_begin", "_law_end", "_law_one", "_law_other", "_law_spot"] ["_law_places", "_law_step", "_law_marks", "_law_more"] (defScope s__law_few_right) := ⟨rfl, rfl, rfl, by decide +kernel, rfl, by decide +kernel, by decide +kernel⟩
def spFew : Sp := fun vs H Q _ => ∃ p s m r : Int, vs = [.int p, .int s, .int m, .int r] ∧ Ring p s ∧ Lv 1 p ∧ 1 ≤ m ∧ m ≤ 1000 ∧ m ≤ top p s ∧ 0 ≤ r ∧ Lv 1 r ∧ ∀ H', Ex H H' → Q (.bl true) H'
theorem spv_few {H : Hp} {p s m r : Int} (R : Ring p s) (l : Lv 1 p) (m1 : 1 ≤ m) (m2 : m ≤ 1000) (m3 : m ≤ top p s) (r0 : 0 ≤ r) (lr : Lv 1 r) : SpV spFew [.int p, .int s, .int m, .int r] H (.bl true) := fun H1 y Q q E => ⟨p, s, m, r, rfl, R, l, m1, m2, m3, r0, lr, q⟩
theorem ok__law_few_right {c : Cs} (hA : Blt mg) (F : Fun K "_law_few_right" "_law_few_right" s__law_few_right f fd)
    (G_turn_of : FnOk P w K mg base CX0 4 f1 fd1 ["places", "step", "marks", "mark"] (spTurnQ K c)) (A_turn_of : At K mg "turn_of" s_turn_of ["places", "step", "marks", "mark"] f1 fd1)
    (G_count : FnOk P w K mg base CX0 4 f2 fd2 ["places", "step", "marks", "begin", "end"] (spCountQ K c)) (A_count : At K mg "count" s_count ["places", "step", "marks", "begin", "end"] f2 fd2) : FnOk P w K mg base CX0 5 f fd ["_law_places", "_law_step", "_law_marks", "_law_more"] spFew := by
  refine F.ok sc__law_few_right (fun vs H Q E h => ?_) (fun cdv A outer s H vs Q E hr h => ?_)
  · obtain ⟨p, s, m, r, rfl, _⟩ := h
    rfl
  · obtain ⟨p, s, m, r, rfl, R, lp, m1, m2, m3, r0, lr, k⟩ := h
    have p1 := R.p
    have ls := R.ls lp
    have lm : Lv 1 m := lv_small (by omega)
    obtain ⟨n, hn⟩ : ∃ n : Nat, m = n := ⟨m.toNat, by omega⟩
    subst hn
    have en : ((n : Int)).toNat = n := by omega
    refine ⟨_, (pss_cons (ps_setLc (i := 4) (own := [("_law_mark", 6)]) (g := (gName 6)) rfl sc__law_few_right.nd rfl rfl (sw_true rfl rfl rfl (by decide +kernel)) (pi_range1 rfl hA.z_range (pa_cons (pv 2) pa_nil)) (blkOk_by (own := [("_law_mark", 6)]) (N := ["_law_places", "_law_step", "_law_marks", "_law_more", "_law_spots", "_law_order", "_law_mark", "_law_low", "_law_high", "_law_begin", "_law_end", "_law_one", "_law_other", "_law_spot"]) (sc := defScope s__law_few_right) (by decide +kernel)) (fun _ _ _ _ _ => (pg_name (i := 6) sc__law_few_right.nd rfl (Or.inl rfl))) (fun _ _ _ _ _ => pts_nil) (fun _ _ _ _ _ => (pe_op op_mod (pe_op op_mulB (pv 6) (pv 1)) (pv 0))))
      (pss_cons (ps_par (i := 5) (j := 6) (by rfl) sc__law_few_right.nd rfl rfl (by decide) rfl rfl (pa_cons (pe_callB cr_sortedI rfl hA.z_sorted (by decide +kernel) (pa_cons (pv 4) pa_nil)) (pa_cons (pe_op op_mod (pv 3) (pv 2)) pa_nil)) (by rfl))
      (pss_cons (ps_if (pt_cmpR op_ne (pe_call G_turn_of (hr.mono (by omega)) rfl A_turn_of.g A_turn_of.fn.kp A_turn_of.b .nil pass0 (pa_cons (pv 0) (pa_cons (pv 1) (pa_cons (pv 2) (pa_cons (pv 6) pa_nil))))) (pe_bm PySem.F.plainAttrs_list PySem.F.slot_list_index PySem.F.type_list_index mt_index (pv 5) (pa_cons (pe_ix ix_list (pv 4) (pv 6) (fun _ _ => rfl)) pa_nil)) (nomark _)) (pss_cons (ps_ret pe_bl)
      pss_nil) pss_nil)
      (pss_cons (ps_par (i := 7) (j := 8) (by rfl) sc__law_few_right.nd rfl rfl (by decide) rfl rfl (pa_cons (pe_ix ix_list (pv 5) (pe_op op_mod (pe_op op_fdivW (pv 3) (pv 2)) (pv 2)) (fun _ _ => rfl)) (pa_cons (pe_ix ix_list (pv 5) (pe_op op_mod (pe_op op_fdivW (pv 3) pe_int) (pv 2)) (fun _ _ => rfl)) pa_nil)) (by rfl))
      (pss_cons (ps_par (i := 9) (j := 10) (by rfl) sc__law_few_right.nd rfl rfl (by decide) rfl rfl (pa_cons (pe_callB (call_min2 rfl) rfl hA.z_min (by decide +kernel) (pa_cons (pv 7) (pa_cons (pv 8) pa_nil))) (pa_cons (pe_callB (call_max2 rfl) rfl hA.z_max (by decide +kernel) (pa_cons (pv 7) (pa_cons (pv 8) pa_nil))) pa_nil)) (by rfl))
      (pss_cons (ps_for PassesOwn.never rfl (pi_tup (pe_tup (pa_cons (pe_tup (pa_cons (pv 9) (pa_cons (pv 10) pa_nil))) (pa_cons (pe_tup (pa_cons (pe_op op_add (pv 9) pe_int) (pa_cons (pv 10) pa_nil))) (pa_cons (pe_tup (pa_cons pe_int (pa_cons (pv 10) pa_nil))) (pa_cons (pe_tup (pa_cons (pv 9) (pa_cons (pe_op op_sub (pv 0) pe_int) pa_nil))) pa_nil)))))) (pg_tup rfl (pgs_cons (pg_name (i := 11) sc__law_few_right.nd rfl (Or.inr rfl)) (pgs_cons (pg_name (i := 12) sc__law_few_right.nd rfl (Or.inr rfl)) pgs_nil))) (pss_cons (ps_if (pt_cmpR op_le (pv 11) (pv 12) (nomark _)) (pss_cons (ps_if (pt_cmpR op_ne (pe_call G_count (hr.mono (by omega)) rfl A_count.g A_count.fn.kp A_count.b .nil pass0 (pa_cons (pv 0) (pa_cons (pv 1) (pa_cons (pv 2) (pa_cons (pv 11) (pa_cons (pv 12) pa_nil)))))) (pe_callB call_len_seq rfl hA.z_len (by decide +kernel) (pa_cons (pe_lc (own := [("_law_spot", 13)]) (g := (gName 13)) rfl sc__law_few_right.nd (pi_list (pv 5)) (blkOk_by (own := [("_law_spot", 13)]) (N := ["_law_places", "_law_step", "_law_marks", "_law_more", "_law_spots", "_law_order", "_law_mark", "_law_low", "_law_high", "_law_begin", "_law_end", "_law_one", "_law_other", "_law_spot"]) (sc := defScope s__law_few_right) (by decide +kernel)) (fun _ _ _ _ _ => (pg_name (i := 13) sc__law_few_right.nd rfl (Or.inl rfl))) (fun _ _ _ _ _ => (pts_one (pt_chain op_le op_le (pv 11) (pv 13) (pv 12)))) (fun _ _ _ _ _ => (pv 13))) pa_nil)) (nomark _)) (pss_cons (ps_ret pe_bl)
      pss_nil) pss_nil)
      pss_nil) pss_nil)
      pss_nil))
      (pss_cons (ps_ret pe_bl)
      pss_nil))))))), Go.at ?_⟩
    refine g_asgL (xs := (spots p s n).map V.int) ?_ ?_
    · rw [← given_spots]
      have lc := el_lcF (n := ((n : Int)).toNat) (σ := start ["_law_places", "_law_step", "_law_marks", "_law_more", "_law_spots", "_law_order", "_law_mark", "_law_low", "_law_high", "_law_begin", "_law_end", "_law_one", "_law_other", "_law_spot"] [.int p, .int s, .int (n : Int), .int r]) (H := H) (vs := [6]) (t := tYes) (te := tOp (rI (fun _ j => 0 < j) fun i j => .int (i % j)) (tOp (rI CMulB fun i j => .int (i * j)) (tVar 6) (tVar 1)) (tVar 0)) (fun _ => true) (fun i => V.int ((i : Int) * s % p)) (ef_range (n := (n : Int)) (j := 6) (ta := tCons (tVar 2) tNil) (ea_cons (ev_var rfl) ea_nil) (by omega) (by omega)) (by omega) (fun i hi => rfl) (fun H4 e4 j hj => et_yes) (fun H4 e4 j hj _ => ev_op (ev_op (ev_var rfl) (ev_var rfl) (rv_I (mul_ok (lv_small (by omega)) ls (by decide) (by decide)))) (ev_var rfl) (rv_I (show (0 : Int) < p by omega)))
      rw [en] at lc
      exact lc
    intro sp H1 nsp e1 hsp
    have k0 := Int.emod_nonneg r (show (n : Int) ≠ 0 by omega)
    have k1 := Int.emod_lt_of_pos r (show (0 : Int) < n by omega)
    refine g_parS (ns := spots p s n) (fun ns' => ns'.Perm (spots p s n) ∧ ns'.Pairwise (· ≤ ·)) (fun ns' a b => ⟨a, b⟩) (ev_var rfl) (sq_of hsp) (ev_op (ev_var rfl) (ev_var rfl) (rv_I (show (0 : Int) < n by omega))) ?_
    rintro od po H2 ⟨hperm, hpw⟩ npo e2 hpo
    have hsp2 := e2 sp _ hsp
    have hlen : od.length = n := by rw [hperm.length_eq]; unfold spots; rw [List.length_map, List.length_range]
    have hall : ∀ y ∈ od, 0 ≤ y ∧ y < p := fun y hy => by
      have := hperm.subset hy
      unfold spots at this
      obtain ⟨i, _, rfl⟩ := List.mem_map.mp this
      exact ⟨Int.emod_nonneg _ (by omega), Int.emod_lt_of_pos _ (by omega)⟩
    have hnd := hperm.nodup_iff.mpr (spots_nodup (s := s) (show 0 < p by omega) m3)
    have hlt := pw_lt hpw hnd
    -- its turn
    generalize r % (n : Int) = kk at *
    obtain ⟨i, rfl⟩ : ∃ i : Nat, kk = i := ⟨kk.toNat, by omega⟩
    have hi : i < n := by omega
    have hat : (spots p s n)[i]? = some ((i : Int) * s % p) := by
      unfold spots
      rw [List.getElem?_map, List.getElem?_range hi]
      rfl
    have hmem : (i : Int) * s % p ∈ od := hperm.symm.subset (List.mem_of_getElem? hat)
    obtain ⟨j, hj⟩ := List.mem_iff_getElem?.mp hmem
    have hix := index_cnt hlt hj
    have hcnt := filter_cnt (p := p) (s := s) (x := (i : Int) * s % p) n
    have hpl := (hperm.filter fun y => decide (y ≤ (i : Int) * s % p)).length_eq
    have hturn : RS.cnt p s n ((i : Int) * s % p) - 1 = j := by omega
    refine g_when (b := false) (et_is (et_test (ev_op (ev_call1 (ea_cons (ev_var rfl) (ea_cons (ev_var rfl) (ea_cons (ev_var rfl) (ea_cons (ev_var rfl) ea_nil)))) (spv_turnOf R lp m1 m3 k0 k1)) (ev_indexI (ev_var rfl) (sq_of hpo) (ev_ixL (ev_var rfl) (sq_of hsp2) (ev_var rfl) (atI_nat (by rw [List.getElem?_map, hat]; rfl))) hj ?_) (rv_ne rfl))) (ne_same (congrArg V.int ?_))) (fun h => nomatch h) (fun _ => ?_)
    · intro m' z hm' hz
      obtain ⟨q1, q2⟩ := List.getElem?_eq_some_iff.mp hz
      obtain ⟨q3, q4⟩ := List.getElem?_eq_some_iff.mp hj
      have := List.pairwise_iff_getElem.mp hlt m' j q1 q3 hm'
      rw [q2, q4] at this
      omega
    · rw [en]
      exact hturn
    -- two of them
    obtain ⟨lo, hlo, mlo⟩ := atI_mod (ns := od) (x := r / (n : Int)) (m := (n : Int)) (by rw [hlen]) (by omega)
    obtain ⟨hi', hhi, mhi⟩ := atI_mod (ns := od) (x := r / 7) (m := (n : Int)) (by rw [hlen]) (by omega)
    refine g_par (ea_cons (ev_ixL (ev_var rfl) (sq_of hpo) (ev_op (ev_op (ev_var rfl) (ev_var rfl) (rv_I (div_ok (by omega) lm))) (ev_var rfl) (rv_I (show (0 : Int) < n by omega))) hlo) (ea_cons (ev_ixL (ev_var rfl) (sq_of hpo) (ev_op (ev_op (ev_var rfl) ev_c (rv_I (div_ok (by decide) (lv_small (by decide))))) (ev_var rfl) (rv_I (show (0 : Int) < n by omega))) hhi) ea_nil)) ?_
    obtain ⟨a0, a1⟩ := hall lo mlo
    obtain ⟨b0, b1⟩ := hall hi' mhi
    refine g_par (ea_cons (ev_min (ev_var rfl) (ev_var rfl)) (ea_cons (ev_max (ev_var rfl) (ev_var rfl)) ea_nil)) ?_
    have c0 : 0 ≤ min lo hi' := by omega
    have c1 : min lo hi' ≤ max lo hi' := by omega
    have c2 : max lo hi' < p := by omega
    generalize min lo hi' = bg at *
    generalize max lo hi' = en' at *
    have hps : ∀ x ∈ [(bg, en'), (bg + 1, en'), (0, en'), (bg, p - 1)], 0 ≤ x.1 ∧ x.2 < p := fun x hx => by
      simp only [List.mem_cons, List.not_mem_nil, or_false] at hx
      rcases hx with rfl | rfl | rfl | rfl <;> (refine ⟨?_, ?_⟩ <;> simp only [] <;> omega)
    refine g_for (ef_tdisp2 (ps := [(bg, en'), (bg + 1, en'), (0, en'), (bg, p - 1)].map fun x : Int × Int => (V.int x.1, V.int x.2)) (eat_cons (eu_tup (ea_cons (ev_var rfl) (ea_cons (ev_var rfl) ea_nil)) (by show 2 ≤ 100000; decide)) (eat_cons (eu_tup (ea_cons (ev_op (ev_var rfl) ev_c rv_I0) (ea_cons (ev_var rfl) ea_nil)) (by show 2 ≤ 100000; decide))
      (eat_cons (eu_tup (ea_cons ev_c (ea_cons (ev_var rfl) ea_nil)) (by show 2 ≤ 100000; decide)) (eat_cons (eu_tup (ea_cons (ev_var rfl) (ea_cons (ev_op (ev_var rfl) ev_c rv_I0) ea_nil)) (by show 2 ≤ 100000; decide)) eat_nil)))) (by show 4 ≤ 100000; decide))
      (fun j' σ' => ∃ o11 o12 o13 : Option V, σ' = [some (.int p), some (.int s), some (.int (n : Int)), some (.int r), some (.ref sp), some (.ref po), some (.int (i : Int)), some (.int lo), some (.int hi'), some (.int bg), some (.int en'), o11, o12, o13]) ⟨_, _, _, rfl⟩ ?_ (fun H3 e3 σ' ⟨_, _, _, h⟩ => by subst h; exact g_ret ev_c fun H' e' => k H' (((e1.trans e2).trans e3).trans e'))
    generalize [(bg, en'), (bg + 1, en'), (0, en'), (bg, p - 1)] = ps at *
    rintro H3 e3 j' σ' hj' ⟨o11, o12, o13, rfl⟩
    rw [List.length_map] at hj'
    obtain ⟨oa, ob, hab⟩ : ∃ oa ob, ps[j'] = (oa, ob) := ⟨_, _, rfl⟩
    obtain ⟨q0, q2⟩ := hps ps[j'] (List.getElem_mem hj')
    rw [hab] at q0 q2
    have q0 : 0 ≤ oa := q0
    have q2 : ob < p := q2
    have gx : (ps.map fun x => (V.int x.1, V.int x.2))[j']? = some (V.int oa, V.int ob) := by rw [List.getElem?_map, List.getElem?_eq_getElem hj', hab]; rfl
    rw [gx]
    refine g_when (et_test (ev_op (ev_var rfl) (ev_var rfl) rv_I0)) (fun h => ?_) (fun _ => g_next fun H4 e4 => ⟨e4, _, _, _, rfl⟩)
    have q1 : oa ≤ ob := of_decide_eq_true h
    have hpo3 := e3 po _ hpo
    have hf := filter_cnt2 (p := p) (s := s) (b := oa) (e := ob) n (by omega)
    have hfx := filter_ix od fun y => decide (oa ≤ y) && decide (y ≤ ob)
    have hpl2 := (hperm.filter fun y => decide (oa ≤ y) && decide (y ≤ ob)).length_eq
    have hget : ∀ i', i' < (od.map V.int).length → (od.map V.int)[i']? = some (V.int (od.getD i' 0)) := fun i' hi'' => by
      rw [List.length_map] at hi''
      rw [List.getElem?_map, List.getElem?_eq_getElem hi'']
      simp [List.getD, hi'']
    refine g_when (b := false) (et_is (et_test (ev_op (ev_call1 (ea_cons (ev_var rfl) (ea_cons (ev_var rfl) (ea_cons (ev_var rfl) (ea_cons (ev_var rfl) (ea_cons (ev_var rfl) ea_nil))))) (spv_count R lp m1 m3 q0 q1 q2)) (ev_lenN (el_lcF (n := (od.map V.int).length) (fun i' => decide (oa ≤ od.getD i' 0) && decide (od.getD i' 0 ≤ ob)) (fun i' => V.int (od.getD i' 0)) (ef_list (ev_var rfl) (sq_of hpo3)) (by rw [List.length_map, hlen]; omega) (fun i' _ => rfl) ?c1 ?c2)) (rv_ne rfl))) (ne_same (congrArg V.int ?c3))) (fun h => nomatch h) (fun _ => g_next fun H4 e4 => And.intro e4 ⟨_, _, _, rfl⟩)
    case c1 =>
      intro H4 e4 i' hi''
      rw [hget i' hi'']
      exact et_test (ev_chainI (ev_var rfl) (ev_var rfl) (ev_var rfl))
    case c2 =>
      intro H4 e4 i' hi'' _
      rw [hget i' hi'']
      exact ev_var rfl
    case c3 =>
      unfold given
      rw [List.length_map, List.length_map]
      unfold inCnt
      rw [en]
      omega
abbrev s_law : Stmt := topS 35
theorem sc_law : FnScope ["_law_script", "_law_more", "_law_step", "_law_places", "_law_mark", "_law_wide", "_law_spot", "_law_found", "_law_turn", "_law_kind"] ["_law_script"] (defScope s_law) := ⟨rfl, rfl, rfl, by decide +kernel, rfl, by decide +kernel, by decide +kernel⟩
def spLaw (K : PySem.W.Frag) : Sp := fun vs H Q _ => ∃ (a : Addr) (ns : List Int), vs = [.ref a] ∧ SqL K H a (ns.map V.int) ∧ ns.length ≤ 63 ∧ (∀ z ∈ ns, Lv 132 z) ∧ ∀ H', Q (.bl true) H'
theorem row_lv {n : Nat} (h : n ≤ 3000) : Lv 1 (7 * (row n).2) := by
  have h1 := row_pos n
  have h2 := row_le n
  refine lv_lit (Nat.lt_of_le_of_lt (m := 8 * 2 ^ n) (by omega) ?_)
  have e : 8 * 2 ^ n = 2 ^ (n + 3) := by rw [Nat.pow_add, Nat.mul_comm]
  rw [e]
  exact Nat.pow_lt_pow_right (by omega) (by omega)
theorem ok_law {c : Cs} {CF CN : Addr} (iF : InsI K CF) (na : NoAttr K CF "mark") (kFF : PySem.W.kitOne K (.ref CF) (.ref CF) = some true) (M_First_g : mg "First" = some (.ref CF)) (hA : Blt mg) (F : Fun K "law" "law" s_law f fd)
    (G__law_row : FnOk P w K mg base CX0 1 f1 fd1 ["_law_many"] spRow) (A__law_row : At K mg "_law_row" s__law_row ["_law_many"] f1 fd1)
    (G_first : FnOk P w K mg base CX0 3 f3 fd3 ["places", "step", "begin", "end"] (spFirstQ K c CF CN)) (A_first : At K mg "first" s_first ["places", "step", "begin", "end"] f3 fd3)
    (G_turn_of : FnOk P w K mg base CX0 4 f4 fd4 ["places", "step", "marks", "mark"] (spTurnQ K c)) (A_turn_of : At K mg "turn_of" s_turn_of ["places", "step", "marks", "mark"] f4 fd4)
    (G__law_first_right : FnOk P w K mg base CX0 4 f5 fd5 ["_law_places", "_law_step", "_law_begin", "_law_end"] spFR9) (A__law_first_right : At K mg "_law_first_right" s__law_first_right ["_law_places", "_law_step", "_law_begin", "_law_end"] f5 fd5)
    (G__law_few_right : FnOk P w K mg base CX0 5 f6 fd6 ["_law_places", "_law_step", "_law_marks", "_law_more"] spFew) (A__law_few_right : At K mg "_law_few_right" s__law_few_right ["_law_places", "_law_step", "_law_marks", "_law_more"] f6 fd6)
    (G__law_never_right : FnOk P w K mg base CX0 4 f7 fd7 ["_law_places", "_law_step", "_law_spot"] spNR9) (A__law_never_right : At K mg "_law_never_right" s__law_never_right ["_law_places", "_law_step", "_law_spot"] f7 fd7) :
    FnOk P w K mg base CX0 6 f fd ["_law_script"] (spLaw K) := by
  refine F.ok sc_law (fun vs H Q E h => ?_) (fun cdv A outer s H vs Q E hr h => ?_)
  · obtain ⟨a, ns, rfl, _⟩ := h
    rfl
  · obtain ⟨a, ns, rfl, hS, hlen, hlv, k⟩ := h
    have Cl_First := iF.cl
    have e40 : (10 : Int) ^ 40 = 10000000000000000000000000000000000000000 := by decide
    have p10 : ∀ {n : Int} {σ : L2.St} {H : Hp}, CPow 10 n → Ev (tOp (rI CPow fun i j => .int (i ^ j.toNat)) (tC (.int 10)) (tC (.int n))) σ H (.int (10 ^ n.toNat)) := fun h => ev_op ev_c ev_c (rv_I h)
    refine ⟨_, (pss_cons (ps_set (i := 1) sc_law.nd rfl (Or.inl rfl) (pe_op op_mod (pe_callB call_abs rfl hA.z_abs (by decide +kernel) (pa_cons (pe_callB (cr_sum rfl) rfl hA.z_sum (by decide +kernel) (pa_cons (pe_slice sl_list (pv 0) po_none (po_some pe_int)) pa_nil)) pa_nil)) (pe_op op_pow pe_int pe_int)))
      (pss_cons (ps_asg (pe_call G__law_row (hr.mono (by omega)) rfl A__law_row.g A__law_row.fn.kp A__law_row.b .nil pass0 (pa_cons (pe_op op_add pe_int (pe_op op_mod (pv 1) pe_int)) pa_nil)) (pg_tup rfl (pgs_cons (pg_name (i := 2) sc_law.nd rfl (Or.inl rfl)) (pgs_cons (pg_name (i := 3) sc_law.nd rfl (Or.inl rfl)) pgs_nil))))
      (pss_cons (ps_par (i := 4) (j := 5) (by rfl) sc_law.nd rfl rfl (by decide) rfl rfl (pa_cons (pe_op op_mod (pe_op op_powB (pe_op op_add (pv 1) pe_int) pe_int) (pv 3)) (pa_cons (pv 3) pa_nil)) (by rfl))
      (pss_cons (ps_set (i := 6) sc_law.nd rfl (Or.inl rfl) (pe_op op_mod (pe_op op_mulB (pv 4) (pv 2)) (pv 3)))
      (pss_cons (ps_set (i := 7) sc_law.nd rfl (Or.inl rfl) (pe_call G_first (hr.mono (by omega)) rfl A_first.g A_first.fn.kp A_first.b .nil pass0 (pa_cons (pv 3) (pa_cons (pv 2) (pa_cons (pv 6) (pa_cons (pv 6) pa_nil))))))
      (pss_cons (ps_if (PW.pt (pw_or (pt_not (pt_val (pe_callB call_isi rfl hA.z_isinstance (by decide +kernel) (pa_cons (pv 7) (pa_cons (pe_glob (v := .ref _) rfl M_First_g rfl) pa_nil))))) (pw_or1 (pt_cmpR op_ne (pe_fld (pv 7) rfl) (pv 4) (nomark _))))) (pss_cons (ps_ret pe_bl)
      pss_nil) pss_nil)
      (pss_cons (ps_for PassesOwn.never rfl (pi_range1 rfl hA.z_range (pa_cons (pe_op op_mod (pe_op op_fdivW (pv 1) pe_int) pe_int) pa_nil)) (pg_name (i := 8) sc_law.nd rfl (Or.inl rfl)) (pss_cons (ps_set (i := 5) sc_law.nd rfl (Or.inl rfl) (pe_op op_fdivW (pv 5) (pe_op op_pow pe_int pe_int)))
      pss_nil))
      (pss_cons (ps_set (i := 9) sc_law.nd rfl (Or.inl rfl) (pe_op op_mod (pv 1) pe_int))
      (pss_cons (ps_if (PW.pt (pw_and (pt_cmpR op_eq (pv 9) pe_int (nomark _)) (pw_and1 (pt_cmpR op_ne (pe_call G_turn_of (hr.mono (by omega)) rfl A_turn_of.g A_turn_of.fn.kp A_turn_of.b .nil pass0 (pa_cons (pv 3) (pa_cons (pv 2) (pa_cons (pv 3) (pa_cons (pv 4) pa_nil))))) (pv 6) (nomark _))))) (pss_cons (ps_ret pe_bl)
      pss_nil) pss_nil)
      (pss_cons (ps_if (PW.pt (pw_and (pt_cmpR op_eq (pv 9) pe_int (nomark _)) (pw_and1 (pt_not (pt_val (pe_call G__law_first_right (hr.mono (by omega)) rfl A__law_first_right.g A__law_first_right.fn.kp A__law_first_right.b .nil pass0 (pa_cons (pv 3) (pa_cons (pv 2) (pa_cons (pv 6) (pa_cons (pe_callB (call_min2 rfl) rfl hA.z_min (by decide +kernel) (pa_cons (pe_op op_sub (pv 3) pe_int) (pa_cons (pe_op op_add (pv 6) (pv 5)) pa_nil))) pa_nil)))))))))) (pss_cons (ps_ret pe_bl)
      pss_nil) pss_nil)
      (pss_cons (ps_if (PW.pt (pw_and (pt_cmpR op_eq (pv 9) pe_int (nomark _)) (pw_and1 (pt_not (pt_val (pe_call G__law_first_right (hr.mono (by omega)) rfl A__law_first_right.g A__law_first_right.fn.kp A__law_first_right.b .nil pass0 (pa_cons (pe_op op_mulB pe_int (pv 3)) (pa_cons (pe_op op_mulB pe_int (pv 2)) (pa_cons (pe_callB (call_max2 rfl) rfl hA.z_max (by decide +kernel) (pa_cons pe_int (pa_cons (pe_op op_sub (pe_op op_mulB pe_int (pv 6)) pe_int) pa_nil))) (pa_cons (pe_op op_mulB pe_int (pv 6)) pa_nil)))))))))) (pss_cons (ps_ret pe_bl)
      pss_nil) pss_nil)
      (pss_cons (ps_if (pt_not (pt_val (pe_call G__law_few_right (hr.mono (by omega)) rfl A__law_few_right.g A__law_few_right.fn.kp A__law_few_right.b .nil pass0 (pa_cons (pv 3) (pa_cons (pv 2) (pa_cons (pe_op op_add pe_int (pe_op op_mod (pe_op op_fdivW (pv 1) pe_int) pe_int)) (pa_cons (pe_op op_fdivW (pv 1) pe_int) pa_nil))))))) (pss_cons (ps_ret pe_bl)
      pss_nil) pss_nil)
      (pss_cons (ps_ret (pe_call G__law_never_right (hr.mono (by omega)) rfl A__law_never_right.g A__law_never_right.fn.kp A__law_never_right.b .nil pass0 (pa_cons (pv 3) (pa_cons (pv 2) (pa_cons (pv 6) pa_nil)))))
      pss_nil))))))))))))), Go.at ?_⟩
    refine g_asg (ev_op (ev_abs (ev_sumN (ns := ns.take 63) (by rw [List.map_take, ← cut_take]; exact el_sl (ev_var rfl) eo_none (eo_some ev_c) hS))) (ev_is (p10 ⟨by decide, by decide, by decide⟩) (congrArg V.int e40)) (rv_I (by decide))) ?_
    generalize hmo : ((ns.take 63).sum.natAbs : Int) % 10000000000000000000000000000000000000000 = mo
    have mo0 : 0 ≤ mo := by omega
    have mo1 : mo < 10000000000000000000000000000000000000000 := by omega
    clear hmo
    have lmo : Lv 1 mo := lv_140 mo0 (by rw [show (2 : Int) ^ 140 = 1393796574908163946345982392040522594123776 by decide]; omega)
    -- the ring
    refine g_asg2 (eu_row (n := 2100 + mo % 900) (by omega) (by omega) (ea_cons (ev_op ev_c (ev_op (ev_var rfl) ev_c (rv_I (by decide))) rv_I0) ea_nil)) ?_
    obtain ⟨n, hn⟩ : ∃ n : Nat, 2100 + mo % 900 = n := ⟨(2100 + mo % 900).toNat, by omega⟩
    rw [show (2100 + mo % 900).toNat = n by omega]
    have n0 : 2100 ≤ n := by omega
    have n1 : n ≤ 3000 := by omega
    have l7 := row_lv n1
    have h1 := row_pos n
    have h2 := row_lt (show 1 ≤ n by omega)
    have h3 := row_ge n
    have hg := G_row n
    generalize (row n).1 = s' at *
    generalize (row n).2 = p at *
    clear hn
    have p1 : 1 ≤ p := by omega
    have R : Ring p s' := ⟨p1, by omega, h2⟩
    have lp : Lv 1 p := lv_le l7 (by omega) (by omega)
    have ls := R.ls lp
    have htop : top p s' = p := by unfold top; rw [hg]; omega
    -- the mark
    refine g_par (ea_cons (ev_op (ev_op (ev_op (ev_var rfl) ev_c rv_I0) ev_c (rv_I (powB_ok (n := 140) (Nat.lt_of_le_of_lt (show (mo + 7).natAbs ≤ 10000000000000000000000000000000000000007 by omega) (by decide)) (by decide) (by decide) (by decide)))) (ev_var rfl) (rv_I (show (0 : Int) < p by omega))) (ea_cons (ev_var rfl) ea_nil)) ?_
    generalize (mo + 7) ^ (64 : Int).toNat = pw
    have k0 := Int.emod_nonneg pw (show p ≠ 0 by omega)
    have k1 := Int.emod_lt_of_pos pw (show 0 < p by omega)
    generalize pw % p = mk at *
    have lk : Lv 1 mk := lv_le lp k0 (by omega)
    refine g_asg (ev_op (ev_op (ev_var rfl) (ev_var rfl) (rv_I (mul_ok lk ls (by decide) (by decide)))) (ev_var rfl) (rv_I (show (0 : Int) < p by omega))) ?_
    have x0 := Int.emod_nonneg (mk * s') (show p ≠ 0 by omega)
    have x1 := Int.emod_lt_of_pos (mk * s') (show 0 < p by omega)
    have hF : FirstIn p s' (mk * s' % p) (mk * s' % p) mk := ⟨k0, ⟨Int.le_refl _, Int.le_refl _⟩, fun j j0 jm ⟨q1, q2⟩ => by
      have := marks_apart (s := s') (show 0 < p by omega) (i := j) (j := mk) j0 (by omega) k0 (by omega) (by omega)
      omega⟩
    have hturn : RS.cnt p s' p.toNat (mk * s' % p) = mk * s' % p + 1 := cnt_full (by omega) hg x0 x1
    have hH1 : ∀ {b e : Int}, b ≤ mk * s' % p → mk * s' % p ≤ e → HasM (G p s') b e := fun {b e} a b' => by
      rw [hg]
      exact ⟨mk * s' % p, by omega, by omega⟩
    have tv : ∀ {H : Hp}, SpV (spTurnQ K c) [.int p, .int s', .int p, .int mk] H (.int (mk * s' % p)) := fun {H} => by
      have := spv_turnOf (K := K) (c := c) (H := H) R lp p1 (by omega : p ≤ top p s') k0 k1
      rw [hturn, show mk * s' % p + 1 - 1 = mk * s' % p by omega] at this
      exact this
    generalize hsp : mk * s' % p = sp at *
    have lsp : Lv 1 sp := lv_le lp x0 (by omega)
    refine g_asgP (evp_first R lp x0 (Int.le_refl sp) x1 (ea_cons (ev_var rfl) (ea_cons (ev_var rfl) (ea_cons (ev_var rfl) (ea_cons (ev_var rfl) ea_nil))))) ?_
    rintro v H2 e2 ⟨y, rfl, ⟨hno, _⟩ | ⟨_, m', hk, dx, hx⟩⟩
    · exact absurd (hH1 (Int.le_refl _) (Int.le_refl _)) hno
    have := hk.uniq hF
    subst this
    refine g_when (b := false) (et_or (a := false) (b := false) (et_not (et_B (ev_isIns (ev_var rfl) hx iF kFF))) fun _ => et_is (et_test (ev_op (ev_fld (ev_var rfl) hx Cl_First na lk_eq) (ev_var rfl) (rv_ne rfl))) (ne_same rfl)) (fun h => nomatch h) (fun _ => ?_)
    have e30 : (10 : Int) ^ (30 : Int).toNat = 1000000000000000000000000000000 := by decide
    refine g_for (ef_range (n := mo / 900 % 20) (ea_cons (ev_op (ev_op (ev_var rfl) ev_c (rv_I (div_ok (by decide) (lv_small (by decide))))) ev_c (rv_I (by decide))) ea_nil) (by omega) (by omega)) (fun i σ' => ∃ (wd : Int) (o : Option V), 0 ≤ wd ∧ σ' = [some (.ref a), some (.int mo), some (.int s'), some (.int p), some (.int m'), some (.int wd), some (.int sp), some (.ref y), o, none]) ⟨p, _, by omega, rfl⟩ ?_ ?_
    · rintro H3 e3 i σ' hi ⟨wd, o, w0, rfl⟩
      refine g_asg (ev_op (ev_var rfl) (ev_is (p10 ⟨by decide, by decide, by decide⟩) (congrArg V.int e30)) (rv_I (div_ok (by decide) (lv_140 (by decide) (by decide))))) (g_next fun H' e => ⟨e, _, _, ?_, rfl⟩)
      exact Int.ediv_nonneg w0 (by decide)
    rintro H3 e3 σ' ⟨wd, o, w0, rfl⟩
    refine g_asg (ev_op (ev_var rfl) ev_c (rv_I (by decide))) ?_
    refine g_when (b := false) (et_is (et_and (et_test (ev_op (ev_var rfl) ev_c (rv_eq rfl))) fun _ => et_is (et_test (ev_op (ev_call1 (ea_cons (ev_var rfl) (ea_cons (ev_var rfl) (ea_cons (ev_var rfl) (ea_cons (ev_var rfl) ea_nil)))) tv) (ev_var rfl) (rv_ne rfl))) (ne_same rfl)) (Bool.and_false _)) (fun h => nomatch h) (fun _ => ?_)
    refine g_when (b := false) (et_is (et_and (b := false) (et_test (ev_op (ev_var rfl) ev_c (rv_eq rfl))) fun _ => et_not (et_B (ev_call1 (ea_cons (ev_var rfl) (ea_cons (ev_var rfl) (ea_cons (ev_var rfl) (ea_cons (ev_min (ev_op (ev_var rfl) ev_c rv_I0) (ev_op (ev_var rfl) (ev_var rfl) rv_I0)) ea_nil)))) (spv_FR9 R lp x0 (show sp ≤ min (p - 1) (sp + wd) by omega) (show min (p - 1) (sp + wd) < p by omega) (hH1 (Int.le_refl _) (show sp ≤ min (p - 1) (sp + wd) by omega)))))) (Bool.and_false _)) (fun h => nomatch h) (fun _ => ?_)
    have R7 : Ring (7 * p) (7 * s') := ⟨by omega, by omega, by omega⟩
    have l7' : Lv 1 (7 : Int) := lv_small (by decide)
    refine g_when (b := false) (et_is (et_and (b := false) (et_test (ev_op (ev_var rfl) ev_c (rv_eq rfl))) fun _ => et_not (a := true) (et_B (ev_call1 (ea_cons (ev_op ev_c (ev_var rfl) (rv_I (mul_ok l7' lp (by decide) (by decide)))) (ea_cons (ev_op ev_c (ev_var rfl) (rv_I (mul_ok l7' ls (by decide) (by decide)))) (ea_cons (ev_max ev_c (ev_op (ev_op ev_c (ev_var rfl) (rv_I (mul_ok l7' lsp (by decide) (by decide)))) ev_c rv_I0)) (ea_cons (ev_op ev_c (ev_var rfl) (rv_I (mul_ok l7' lsp (by decide) (by decide)))) ea_nil)))) (spv_FR9 R7 l7 (show 0 ≤ max 0 (7 * sp - 3) by omega) (show max 0 (7 * sp - 3) ≤ 7 * sp by omega) (show 7 * sp < 7 * p by omega) (by rw [G_mul7 hg]; exact ⟨sp, by omega, by omega⟩))))) (Bool.and_false _)) (fun h => nomatch h) (fun _ => ?_)
    have fw : ∀ {H : Hp}, SpV spFew [.int p, .int s', .int (1 + mo / 900 % 120), .int (mo / 1000)] H (.bl true) := fun {H} => spv_few R lp (by omega) (by omega) (by omega) (by omega) (lv_div lmo (by decide))
    refine g_when (b := false) (et_not (a := true) (et_B (ev_call1 (ea_cons (ev_var rfl) (ea_cons (ev_var rfl) (ea_cons (ev_op ev_c (ev_op (ev_op (ev_var rfl) ev_c (rv_I (div_ok (i := mo) (j := 900) (by decide) (lv_small (by decide))))) ev_c (rv_I (show (0 : Int) < 120 by decide))) rv_I0) (ea_cons (ev_op (ev_var rfl) ev_c (rv_I (div_ok (i := mo) (j := 1000) (by decide) (lv_small (by decide))))) ea_nil)))) fw))) (fun h => nomatch h) (fun _ => ?_)
    exact g_ret (ev_call1 (ea_cons (ev_var rfl) (ea_cons (ev_var rfl) (ea_cons (ev_var rfl) ea_nil))) (spv_NR9 R l7 hg x0 x1)) fun H' _ => k H'
end
theorem all_mk {l : PySem.W.OpenLaw} {w : World} {K : PySem.W.Frag} {h : Heap} {mg : Str → Option Value} {fa : Addr} (X : K.In h) (G : h.Ns mainGlobals mg) (hfa : mg "law" = some (.ref fa))
    {C_Never : Addr}
    {C_First : Addr}
    {a_is_number : Addr} {oc_is_number kV_is_number dc_is_number pm_is_number cd_is_number ct_is_number : Value} {od_is_number an_is_number : Option Addr} {sl_is_number : Array (Option Value)}
    {a_common : Addr} {oc_common kV_common dc_common pm_common cd_common ct_common : Value} {od_common an_common : Option Addr} {sl_common : Array (Option Value)}
    {a_most_of : Addr} {oc_most_of kV_most_of dc_most_of pm_most_of cd_most_of ct_most_of : Value} {od_most_of an_most_of : Option Addr} {sl_most_of : Array (Option Value)}
    {a_check_ring : Addr} {oc_check_ring kV_check_ring dc_check_ring pm_check_ring cd_check_ring ct_check_ring : Value} {od_check_ring an_check_ring : Option Addr} {sl_check_ring : Array (Option Value)}
    {a_check_marks : Addr} {oc_check_marks kV_check_marks dc_check_marks pm_check_marks cd_check_marks ct_check_marks : Value} {od_check_marks an_check_marks : Option Addr} {sl_check_marks : Array (Option Value)}
    {a_check_stretch : Addr} {oc_check_stretch kV_check_stretch dc_check_stretch pm_check_stretch cd_check_stretch ct_check_stretch : Value} {od_check_stretch an_check_stretch : Option Addr} {sl_check_stretch : Array (Option Value)}
    {a_quotients : Addr} {oc_quotients kV_quotients dc_quotients pm_quotients cd_quotients ct_quotients : Value} {od_quotients an_quotients : Option Addr} {sl_quotients : Array (Option Value)}
    {a_marks_to : Addr} {oc_marks_to kV_marks_to dc_marks_to pm_marks_to cd_marks_to ct_marks_to : Value} {od_marks_to an_marks_to : Option Addr} {sl_marks_to : Array (Option Value)}
    {a_led_back : Addr} {oc_led_back kV_led_back dc_led_back pm_led_back cd_led_back ct_led_back : Value} {od_led_back an_led_back : Option Addr} {sl_led_back : Array (Option Value)}
    {a_least_mark : Addr} {oc_least_mark kV_least_mark dc_least_mark pm_least_mark cd_least_mark ct_least_mark : Value} {od_least_mark an_least_mark : Option Addr} {sl_least_mark : Array (Option Value)}
    {a_first : Addr} {oc_first kV_first dc_first pm_first cd_first ct_first : Value} {od_first an_first : Option Addr} {sl_first : Array (Option Value)}
    {a_count : Addr} {oc_count kV_count dc_count pm_count cd_count ct_count : Value} {od_count an_count : Option Addr} {sl_count : Array (Option Value)}
    {a_check_mark : Addr} {oc_check_mark kV_check_mark dc_check_mark pm_check_mark cd_check_mark ct_check_mark : Value} {od_check_mark an_check_mark : Option Addr} {sl_check_mark : Array (Option Value)}
    {a_turn_of : Addr} {oc_turn_of kV_turn_of dc_turn_of pm_turn_of cd_turn_of ct_turn_of : Value} {od_turn_of an_turn_of : Option Addr} {sl_turn_of : Array (Option Value)}
    {a__law_row : Addr} {oc__law_row kV__law_row dc__law_row pm__law_row cd__law_row ct__law_row : Value} {od__law_row an__law_row : Option Addr} {sl__law_row : Array (Option Value)}
    {a__law_sum : Addr} {oc__law_sum kV__law_sum dc__law_sum pm__law_sum cd__law_sum ct__law_sum : Value} {od__law_sum an__law_sum : Option Addr} {sl__law_sum : Array (Option Value)}
    {a__law_to : Addr} {oc__law_to kV__law_to dc__law_to pm__law_to cd__law_to ct__law_to : Value} {od__law_to an__law_to : Option Addr} {sl__law_to : Array (Option Value)}
    {a__law_first_right : Addr} {oc__law_first_right kV__law_first_right dc__law_first_right pm__law_first_right cd__law_first_right ct__law_first_right : Value} {od__law_first_right an__law_first_right : Option Addr} {sl__law_first_right : Array (Option Value)}
    {a__law_few_right : Addr} {oc__law_few_right kV__law_few_right dc__law_few_right pm__law_few_right cd__law_few_right ct__law_few_right : Value} {od__law_few_right an__law_few_right : Option Addr} {sl__law_few_right : Array (Option Value)}
    {a__law_never_right : Addr} {oc__law_never_right kV__law_never_right dc__law_never_right pm__law_never_right cd__law_never_right ct__law_never_right : Value} {od__law_never_right an__law_never_right : Option Addr} {sl__law_never_right : Array (Option Value)}
    {a_law : Addr} {oc_law kV_law dc_law pm_law cd_law ct_law : Value} {od_law an_law : Option Addr} {sl_law : Array (Option Value)}
    {a_First___init__ : Addr} {oc_First___init__ kV_First___init__ dc_First___init__ pm_First___init__ cd_First___init__ ct_First___init__ : Value} {od_First___init__ an_First___init__ : Option Addr} {sl_First___init__ : Array (Option Value)}
    {a_First_shows : Addr} {oc_First_shows kV_First_shows dc_First_shows pm_First_shows cd_First_shows ct_First_shows : Value} {od_First_shows an_First_shows : Option Addr} {sl_First_shows : Array (Option Value)}
    {a_Never___init__ : Addr} {oc_Never___init__ kV_Never___init__ dc_Never___init__ pm_Never___init__ cd_Never___init__ ct_Never___init__ : Value} {od_Never___init__ an_Never___init__ : Option Addr} {sl_Never___init__ : Array (Option Value)}
    {a_Never_shows : Addr} {oc_Never_shows kV_Never_shows dc_Never_shows pm_Never_shows cd_Never_shows ct_Never_shows : Value} {od_Never_shows an_Never_shows : Option Addr} {sl_Never_shows : Array (Option Value)}
    {C_BadPlaces : Addr}
    {C_BadStep : Addr}
    {C_BadMarks : Addr}
    {C_BadPlace : Addr}
    {C_BadMark : Addr}
    (n_First : PySem.W.nsIn K mainGlobals "First" = some (some (.ref C_First)))
    (n_Never : PySem.W.nsIn K mainGlobals "Never" = some (some (.ref C_Never)))
    (n_is_number : PySem.W.nsIn K mainGlobals "is_number" = some (some (.ref a_is_number)))
    (l_is_number : K.lookup a_is_number = some ⟨oc_is_number, od_is_number, .func (PySem.W.fnOf "is_number" "is_number" (defArgs s_is_number) (defBody s_is_number) (defScope s_is_number) .none kV_is_number dc_is_number pm_is_number an_is_number cd_is_number ct_is_number), sl_is_number⟩)
    (c_is_number : PySem.W.codeIn K cd_is_number "is_number" = true)
    (k_is_number : PySem.W.keepIn K (.ref a_is_number) = true)
    (n_common : PySem.W.nsIn K mainGlobals "common" = some (some (.ref a_common)))
    (l_common : K.lookup a_common = some ⟨oc_common, od_common, .func (PySem.W.fnOf "common" "common" (defArgs s_common) (defBody s_common) (defScope s_common) .none kV_common dc_common pm_common an_common cd_common ct_common), sl_common⟩)
    (c_common : PySem.W.codeIn K cd_common "common" = true)
    (k_common : PySem.W.keepIn K (.ref a_common) = true)
    (n_most_of : PySem.W.nsIn K mainGlobals "most_of" = some (some (.ref a_most_of)))
    (l_most_of : K.lookup a_most_of = some ⟨oc_most_of, od_most_of, .func (PySem.W.fnOf "most_of" "most_of" (defArgs s_most_of) (defBody s_most_of) (defScope s_most_of) .none kV_most_of dc_most_of pm_most_of an_most_of cd_most_of ct_most_of), sl_most_of⟩)
    (c_most_of : PySem.W.codeIn K cd_most_of "most_of" = true)
    (k_most_of : PySem.W.keepIn K (.ref a_most_of) = true)
    (n_check_ring : PySem.W.nsIn K mainGlobals "check_ring" = some (some (.ref a_check_ring)))
    (l_check_ring : K.lookup a_check_ring = some ⟨oc_check_ring, od_check_ring, .func (PySem.W.fnOf "check_ring" "check_ring" (defArgs s_check_ring) (defBody s_check_ring) (defScope s_check_ring) .none kV_check_ring dc_check_ring pm_check_ring an_check_ring cd_check_ring ct_check_ring), sl_check_ring⟩)
    (c_check_ring : PySem.W.codeIn K cd_check_ring "check_ring" = true)
    (k_check_ring : PySem.W.keepIn K (.ref a_check_ring) = true)
    (n_check_marks : PySem.W.nsIn K mainGlobals "check_marks" = some (some (.ref a_check_marks)))
    (l_check_marks : K.lookup a_check_marks = some ⟨oc_check_marks, od_check_marks, .func (PySem.W.fnOf "check_marks" "check_marks" (defArgs s_check_marks) (defBody s_check_marks) (defScope s_check_marks) .none kV_check_marks dc_check_marks pm_check_marks an_check_marks cd_check_marks ct_check_marks), sl_check_marks⟩)
    (c_check_marks : PySem.W.codeIn K cd_check_marks "check_marks" = true)
    (k_check_marks : PySem.W.keepIn K (.ref a_check_marks) = true)
    (n_check_stretch : PySem.W.nsIn K mainGlobals "check_stretch" = some (some (.ref a_check_stretch)))
    (l_check_stretch : K.lookup a_check_stretch = some ⟨oc_check_stretch, od_check_stretch, .func (PySem.W.fnOf "check_stretch" "check_stretch" (defArgs s_check_stretch) (defBody s_check_stretch) (defScope s_check_stretch) .none kV_check_stretch dc_check_stretch pm_check_stretch an_check_stretch cd_check_stretch ct_check_stretch), sl_check_stretch⟩)
    (c_check_stretch : PySem.W.codeIn K cd_check_stretch "check_stretch" = true)
    (k_check_stretch : PySem.W.keepIn K (.ref a_check_stretch) = true)
    (n_quotients : PySem.W.nsIn K mainGlobals "quotients" = some (some (.ref a_quotients)))
    (l_quotients : K.lookup a_quotients = some ⟨oc_quotients, od_quotients, .func (PySem.W.fnOf "quotients" "quotients" (defArgs s_quotients) (defBody s_quotients) (defScope s_quotients) .none kV_quotients dc_quotients pm_quotients an_quotients cd_quotients ct_quotients), sl_quotients⟩)
    (c_quotients : PySem.W.codeIn K cd_quotients "quotients" = true)
    (k_quotients : PySem.W.keepIn K (.ref a_quotients) = true)
    (n_marks_to : PySem.W.nsIn K mainGlobals "marks_to" = some (some (.ref a_marks_to)))
    (l_marks_to : K.lookup a_marks_to = some ⟨oc_marks_to, od_marks_to, .func (PySem.W.fnOf "marks_to" "marks_to" (defArgs s_marks_to) (defBody s_marks_to) (defScope s_marks_to) .none kV_marks_to dc_marks_to pm_marks_to an_marks_to cd_marks_to ct_marks_to), sl_marks_to⟩)
    (c_marks_to : PySem.W.codeIn K cd_marks_to "marks_to" = true)
    (k_marks_to : PySem.W.keepIn K (.ref a_marks_to) = true)
    (n_led_back : PySem.W.nsIn K mainGlobals "led_back" = some (some (.ref a_led_back)))
    (l_led_back : K.lookup a_led_back = some ⟨oc_led_back, od_led_back, .func (PySem.W.fnOf "led_back" "led_back" (defArgs s_led_back) (defBody s_led_back) (defScope s_led_back) .none kV_led_back dc_led_back pm_led_back an_led_back cd_led_back ct_led_back), sl_led_back⟩)
    (c_led_back : PySem.W.codeIn K cd_led_back "led_back" = true)
    (k_led_back : PySem.W.keepIn K (.ref a_led_back) = true)
    (n_least_mark : PySem.W.nsIn K mainGlobals "least_mark" = some (some (.ref a_least_mark)))
    (l_least_mark : K.lookup a_least_mark = some ⟨oc_least_mark, od_least_mark, .func (PySem.W.fnOf "least_mark" "least_mark" (defArgs s_least_mark) (defBody s_least_mark) (defScope s_least_mark) .none kV_least_mark dc_least_mark pm_least_mark an_least_mark cd_least_mark ct_least_mark), sl_least_mark⟩)
    (c_least_mark : PySem.W.codeIn K cd_least_mark "least_mark" = true)
    (k_least_mark : PySem.W.keepIn K (.ref a_least_mark) = true)
    (n_first : PySem.W.nsIn K mainGlobals "first" = some (some (.ref a_first)))
    (l_first : K.lookup a_first = some ⟨oc_first, od_first, .func (PySem.W.fnOf "first" "first" (defArgs s_first) (defBody s_first) (defScope s_first) .none kV_first dc_first pm_first an_first cd_first ct_first), sl_first⟩)
    (c_first : PySem.W.codeIn K cd_first "first" = true)
    (k_first : PySem.W.keepIn K (.ref a_first) = true)
    (n_count : PySem.W.nsIn K mainGlobals "count" = some (some (.ref a_count)))
    (l_count : K.lookup a_count = some ⟨oc_count, od_count, .func (PySem.W.fnOf "count" "count" (defArgs s_count) (defBody s_count) (defScope s_count) .none kV_count dc_count pm_count an_count cd_count ct_count), sl_count⟩)
    (c_count : PySem.W.codeIn K cd_count "count" = true)
    (k_count : PySem.W.keepIn K (.ref a_count) = true)
    (n_check_mark : PySem.W.nsIn K mainGlobals "check_mark" = some (some (.ref a_check_mark)))
    (l_check_mark : K.lookup a_check_mark = some ⟨oc_check_mark, od_check_mark, .func (PySem.W.fnOf "check_mark" "check_mark" (defArgs s_check_mark) (defBody s_check_mark) (defScope s_check_mark) .none kV_check_mark dc_check_mark pm_check_mark an_check_mark cd_check_mark ct_check_mark), sl_check_mark⟩)
    (c_check_mark : PySem.W.codeIn K cd_check_mark "check_mark" = true)
    (k_check_mark : PySem.W.keepIn K (.ref a_check_mark) = true)
    (n_turn_of : PySem.W.nsIn K mainGlobals "turn_of" = some (some (.ref a_turn_of)))
    (l_turn_of : K.lookup a_turn_of = some ⟨oc_turn_of, od_turn_of, .func (PySem.W.fnOf "turn_of" "turn_of" (defArgs s_turn_of) (defBody s_turn_of) (defScope s_turn_of) .none kV_turn_of dc_turn_of pm_turn_of an_turn_of cd_turn_of ct_turn_of), sl_turn_of⟩)
    (c_turn_of : PySem.W.codeIn K cd_turn_of "turn_of" = true)
    (k_turn_of : PySem.W.keepIn K (.ref a_turn_of) = true)
    (n__law_row : PySem.W.nsIn K mainGlobals "_law_row" = some (some (.ref a__law_row)))
    (l__law_row : K.lookup a__law_row = some ⟨oc__law_row, od__law_row, .func (PySem.W.fnOf "_law_row" "_law_row" (defArgs s__law_row) (defBody s__law_row) (defScope s__law_row) .none kV__law_row dc__law_row pm__law_row an__law_row cd__law_row ct__law_row), sl__law_row⟩)
    (c__law_row : PySem.W.codeIn K cd__law_row "_law_row" = true)
    (k__law_row : PySem.W.keepIn K (.ref a__law_row) = true)
    (n__law_sum : PySem.W.nsIn K mainGlobals "_law_sum" = some (some (.ref a__law_sum)))
    (l__law_sum : K.lookup a__law_sum = some ⟨oc__law_sum, od__law_sum, .func (PySem.W.fnOf "_law_sum" "_law_sum" (defArgs s__law_sum) (defBody s__law_sum) (defScope s__law_sum) .none kV__law_sum dc__law_sum pm__law_sum an__law_sum cd__law_sum ct__law_sum), sl__law_sum⟩)
    (c__law_sum : PySem.W.codeIn K cd__law_sum "_law_sum" = true)
    (k__law_sum : PySem.W.keepIn K (.ref a__law_sum) = true)
    (n__law_to : PySem.W.nsIn K mainGlobals "_law_to" = some (some (.ref a__law_to)))
    (l__law_to : K.lookup a__law_to = some ⟨oc__law_to, od__law_to, .func (PySem.W.fnOf "_law_to" "_law_to" (defArgs s__law_to) (defBody s__law_to) (defScope s__law_to) .none kV__law_to dc__law_to pm__law_to an__law_to cd__law_to ct__law_to), sl__law_to⟩)
    (c__law_to : PySem.W.codeIn K cd__law_to "_law_to" = true)
    (k__law_to : PySem.W.keepIn K (.ref a__law_to) = true)
    (n__law_first_right : PySem.W.nsIn K mainGlobals "_law_first_right" = some (some (.ref a__law_first_right)))
    (l__law_first_right : K.lookup a__law_first_right = some ⟨oc__law_first_right, od__law_first_right, .func (PySem.W.fnOf "_law_first_right" "_law_first_right" (defArgs s__law_first_right) (defBody s__law_first_right) (defScope s__law_first_right) .none kV__law_first_right dc__law_first_right pm__law_first_right an__law_first_right cd__law_first_right ct__law_first_right), sl__law_first_right⟩)
    (c__law_first_right : PySem.W.codeIn K cd__law_first_right "_law_first_right" = true)
    (k__law_first_right : PySem.W.keepIn K (.ref a__law_first_right) = true)
    (n__law_few_right : PySem.W.nsIn K mainGlobals "_law_few_right" = some (some (.ref a__law_few_right)))
    (l__law_few_right : K.lookup a__law_few_right = some ⟨oc__law_few_right, od__law_few_right, .func (PySem.W.fnOf "_law_few_right" "_law_few_right" (defArgs s__law_few_right) (defBody s__law_few_right) (defScope s__law_few_right) .none kV__law_few_right dc__law_few_right pm__law_few_right an__law_few_right cd__law_few_right ct__law_few_right), sl__law_few_right⟩)
    (c__law_few_right : PySem.W.codeIn K cd__law_few_right "_law_few_right" = true)
    (k__law_few_right : PySem.W.keepIn K (.ref a__law_few_right) = true)
    (n__law_never_right : PySem.W.nsIn K mainGlobals "_law_never_right" = some (some (.ref a__law_never_right)))
    (l__law_never_right : K.lookup a__law_never_right = some ⟨oc__law_never_right, od__law_never_right, .func (PySem.W.fnOf "_law_never_right" "_law_never_right" (defArgs s__law_never_right) (defBody s__law_never_right) (defScope s__law_never_right) .none kV__law_never_right dc__law_never_right pm__law_never_right an__law_never_right cd__law_never_right ct__law_never_right), sl__law_never_right⟩)
    (c__law_never_right : PySem.W.codeIn K cd__law_never_right "_law_never_right" = true)
    (k__law_never_right : PySem.W.keepIn K (.ref a__law_never_right) = true)
    (n_law : PySem.W.nsIn K mainGlobals "law" = some (some (.ref a_law)))
    (l_law : K.lookup a_law = some ⟨oc_law, od_law, .func (PySem.W.fnOf "law" "law" (defArgs s_law) (defBody s_law) (defScope s_law) .none kV_law dc_law pm_law an_law cd_law ct_law), sl_law⟩)
    (c_law : PySem.W.codeIn K cd_law "law" = true)
    (k_law : PySem.W.keepIn K (.ref a_law) = true)
    (n_First___init__ : PySem.W.findIn K (.ref C_First) "__init__" = some (some (.ref a_First___init__)))
    (i_First___init__ : PySem.W.isFn K (.ref a_First___init__) = true)
    (l_First___init__ : K.lookup a_First___init__ = some ⟨oc_First___init__, od_First___init__, .func (PySem.W.fnOf "__init__" "First.__init__" (defArgs s_First___init__) (defBody s_First___init__) (defScope s_First___init__) .none kV_First___init__ dc_First___init__ pm_First___init__ an_First___init__ cd_First___init__ ct_First___init__), sl_First___init__⟩)
    (c_First___init__ : PySem.W.codeIn K cd_First___init__ "First.__init__" = true)
    (k_First___init__ : PySem.W.keepIn K (.ref a_First___init__) = true)
    (n_First_shows : PySem.W.findIn K (.ref C_First) "shows" = some (some (.ref a_First_shows)))
    (i_First_shows : PySem.W.isFn K (.ref a_First_shows) = true)
    (l_First_shows : K.lookup a_First_shows = some ⟨oc_First_shows, od_First_shows, .func (PySem.W.fnOf "shows" "First.shows" (defArgs s_First_shows) (defBody s_First_shows) (defScope s_First_shows) .none kV_First_shows dc_First_shows pm_First_shows an_First_shows cd_First_shows ct_First_shows), sl_First_shows⟩)
    (c_First_shows : PySem.W.codeIn K cd_First_shows "First.shows" = true)
    (k_First_shows : PySem.W.keepIn K (.ref a_First_shows) = true)
    (n_Never___init__ : PySem.W.findIn K (.ref C_Never) "__init__" = some (some (.ref a_Never___init__)))
    (i_Never___init__ : PySem.W.isFn K (.ref a_Never___init__) = true)
    (l_Never___init__ : K.lookup a_Never___init__ = some ⟨oc_Never___init__, od_Never___init__, .func (PySem.W.fnOf "__init__" "Never.__init__" (defArgs s_Never___init__) (defBody s_Never___init__) (defScope s_Never___init__) .none kV_Never___init__ dc_Never___init__ pm_Never___init__ an_Never___init__ cd_Never___init__ ct_Never___init__), sl_Never___init__⟩)
    (c_Never___init__ : PySem.W.codeIn K cd_Never___init__ "Never.__init__" = true)
    (k_Never___init__ : PySem.W.keepIn K (.ref a_Never___init__) = true)
    (n_Never_shows : PySem.W.findIn K (.ref C_Never) "shows" = some (some (.ref a_Never_shows)))
    (i_Never_shows : PySem.W.isFn K (.ref a_Never_shows) = true)
    (l_Never_shows : K.lookup a_Never_shows = some ⟨oc_Never_shows, od_Never_shows, .func (PySem.W.fnOf "shows" "Never.shows" (defArgs s_Never_shows) (defBody s_Never_shows) (defScope s_Never_shows) .none kV_Never_shows dc_Never_shows pm_Never_shows an_Never_shows cd_Never_shows ct_Never_shows), sl_Never_shows⟩)
    (c_Never_shows : PySem.W.codeIn K cd_Never_shows "Never.shows" = true)
    (k_Never_shows : PySem.W.keepIn K (.ref a_Never_shows) = true)
    (pg_First : PySem.W.plainGet K C_First Str.empty = true)
    (hd_First : PySem.W.hasDictIn K C_First = true)
    (po_First : PySem.W.plainOver K C_First = true)
    (sa_First : PySem.W.findIn K (.ref C_First) "__setattr__" = some (some (.builtin "object.__setattr__")))
    (na_First_mark : PySem.W.findIn K (.ref C_First) "mark" = some none)
    (mk_First : PySem.W.makesIn K C_First = true)
    (kc_First : PySem.W.keepIn K (.ref C_First) = true)
    (oc_First : PySem.W.findIn K (.ref C_First) "__class__" = some (some (.builtin "object.__class__")))
    (om_First : PySem.W.mroIn K C_First (.type "object") = some true)
    (ic_First : PySem.W.isClsIn K C_First = true)
    (tc_First : PySem.W.typeIn K (.ref C_First) = some (.type "type"))
    (ss_First : PySem.W.subIn K (.ref C_First) (.ref C_First) = some true)
    (pg_Never : PySem.W.plainGet K C_Never Str.empty = true)
    (hd_Never : PySem.W.hasDictIn K C_Never = true)
    (po_Never : PySem.W.plainOver K C_Never = true)
    (sa_Never : PySem.W.findIn K (.ref C_Never) "__setattr__" = some (some (.builtin "object.__setattr__")))
    (na_Never_common : PySem.W.findIn K (.ref C_Never) "common" = some none)
    (mk_Never : PySem.W.makesIn K C_Never = true)
    (kc_Never : PySem.W.keepIn K (.ref C_Never) = true)
    (oc_Never : PySem.W.findIn K (.ref C_Never) "__class__" = some (some (.builtin "object.__class__")))
    (om_Never : PySem.W.mroIn K C_Never (.type "object") = some true)
    (ic_Never : PySem.W.isClsIn K C_Never = true)
    (tc_Never : PySem.W.typeIn K (.ref C_Never) = some (.type "type"))
    (ss_Never : PySem.W.subIn K (.ref C_Never) (.ref C_Never) = some true)
    (ss_First_Never : PySem.W.subIn K (.ref C_First) (.ref C_Never) = some false)
    (ss_Never_First : PySem.W.subIn K (.ref C_Never) (.ref C_First) = some false)
    (ogt : PySem.W.specialIn K (.builtin "object.__class__") "__get__" = some (some (.builtin "getset_descriptor.__get__")))
    (otk : PySem.W.takesIn K (.builtin "object.__class__") = some true)
    (n_BadPlaces : PySem.W.nsIn K mainGlobals "BadPlaces" = some (some (.ref C_BadPlaces)))
    (x_BadPlaces : PySem.W.excIn K C_BadPlaces [.type "ValueError", .type "Exception", .type "BaseException", .type "object"] "ValueError.__new__" = true)
    (k_BadPlaces : PySem.W.keepIn K (.ref C_BadPlaces) = true)
    (b_BadPlaces : PySem.W.subIn K (.ref C_BadPlaces) (.type "BaseException") = some true)
    (t_BadPlaces : PySem.W.typeIn K (.ref C_BadPlaces) = some (.type "type"))
    (n_BadStep : PySem.W.nsIn K mainGlobals "BadStep" = some (some (.ref C_BadStep)))
    (x_BadStep : PySem.W.excIn K C_BadStep [.type "ValueError", .type "Exception", .type "BaseException", .type "object"] "ValueError.__new__" = true)
    (k_BadStep : PySem.W.keepIn K (.ref C_BadStep) = true)
    (b_BadStep : PySem.W.subIn K (.ref C_BadStep) (.type "BaseException") = some true)
    (t_BadStep : PySem.W.typeIn K (.ref C_BadStep) = some (.type "type"))
    (n_BadMarks : PySem.W.nsIn K mainGlobals "BadMarks" = some (some (.ref C_BadMarks)))
    (x_BadMarks : PySem.W.excIn K C_BadMarks [.type "ValueError", .type "Exception", .type "BaseException", .type "object"] "ValueError.__new__" = true)
    (k_BadMarks : PySem.W.keepIn K (.ref C_BadMarks) = true)
    (b_BadMarks : PySem.W.subIn K (.ref C_BadMarks) (.type "BaseException") = some true)
    (t_BadMarks : PySem.W.typeIn K (.ref C_BadMarks) = some (.type "type"))
    (n_BadPlace : PySem.W.nsIn K mainGlobals "BadPlace" = some (some (.ref C_BadPlace)))
    (x_BadPlace : PySem.W.excIn K C_BadPlace [.type "ValueError", .type "Exception", .type "BaseException", .type "object"] "ValueError.__new__" = true)
    (k_BadPlace : PySem.W.keepIn K (.ref C_BadPlace) = true)
    (b_BadPlace : PySem.W.subIn K (.ref C_BadPlace) (.type "BaseException") = some true)
    (t_BadPlace : PySem.W.typeIn K (.ref C_BadPlace) = some (.type "type"))
    (n_BadMark : PySem.W.nsIn K mainGlobals "BadMark" = some (some (.ref C_BadMark)))
    (x_BadMark : PySem.W.excIn K C_BadMark [.type "ValueError", .type "Exception", .type "BaseException", .type "object"] "ValueError.__new__" = true)
    (k_BadMark : PySem.W.keepIn K (.ref C_BadMark) = true)
    (b_BadMark : PySem.W.subIn K (.ref C_BadMark) (.type "BaseException") = some true)
    (t_BadMark : PySem.W.typeIn K (.ref C_BadMark) = some (.type "type"))
    (z_isinstance : PySem.W.nsIn K mainGlobals "isinstance" = some none)
    (z_int : PySem.W.nsIn K mainGlobals "int" = some none)
    (z_bool : PySem.W.nsIn K mainGlobals "bool" = some none)
    (z_len : PySem.W.nsIn K mainGlobals "len" = some none)
    (z_sum : PySem.W.nsIn K mainGlobals "sum" = some none)
    (z_min : PySem.W.nsIn K mainGlobals "min" = some none)
    (z_max : PySem.W.nsIn K mainGlobals "max" = some none)
    (z_sorted : PySem.W.nsIn K mainGlobals "sorted" = some none)
    (z_range : PySem.W.nsIn K mainGlobals "range" = some none)
    (z_enumerate : PySem.W.nsIn K mainGlobals "enumerate" = some none)
    (z_reversed : PySem.W.nsIn K mainGlobals "reversed" = some none)
    (z_zip : PySem.W.nsIn K mainGlobals "zip" = some none)
    (z_abs : PySem.W.nsIn K mainGlobals "abs" = some none)
    (z_all : PySem.W.nsIn K mainGlobals "all" = some none)
    (z_any : PySem.W.nsIn K mainGlobals "any" = some none)
    (z_list : PySem.W.nsIn K mainGlobals "list" = some none)
    (z_tuple : PySem.W.nsIn K mainGlobals "tuple" = some none)
    (z_set : PySem.W.nsIn K mainGlobals "set" = some none)
    (z_str : PySem.W.nsIn K mainGlobals "str" = some none)
    (z_ValueError : PySem.W.nsIn K mainGlobals "ValueError" = some none) :
    ∃ fd : FuncData, (∀ (s : Shared) (v : Value), BindsTo s fd ⟨[v], []⟩ [("_law_script", v)]) ∧ ∀ base : Heap, K.In base → base.Ns mainGlobals mg → FnOk l.prog w K mg base CX0 6 fa fd ["_law_script"] (spLaw K) := by
  have e := hfa.symm.trans (PySem.W.mg_of X G n_law)
  cases e
  have F_is_number := fun_mk (st := s_is_number) l_is_number c_is_number k_is_number
  have A_is_number : At K mg "is_number" s_is_number ["thing", "least", "most"] _ _ := ⟨F_is_number, F_is_number.binds fun _ _ _ _ _ _ us hl => match us, hl with | [_, _, _], _ => rfl, PySem.W.mg_of X G n_is_number⟩
  have F_common := fun_mk (st := s_common) l_common c_common k_common
  have A_common : At K mg "common" s_common ["one", "other"] _ _ := ⟨F_common, F_common.binds fun _ _ _ _ _ _ us hl => match us, hl with | [_, _], _ => rfl, PySem.W.mg_of X G n_common⟩
  have F_most_of := fun_mk (st := s_most_of) l_most_of c_most_of k_most_of
  have A_most_of : At K mg "most_of" s_most_of ["places", "step"] _ _ := ⟨F_most_of, F_most_of.binds fun _ _ _ _ _ _ us hl => match us, hl with | [_, _], _ => rfl, PySem.W.mg_of X G n_most_of⟩
  have F_check_ring := fun_mk (st := s_check_ring) l_check_ring c_check_ring k_check_ring
  have A_check_ring : At K mg "check_ring" s_check_ring ["places", "step"] _ _ := ⟨F_check_ring, F_check_ring.binds fun _ _ _ _ _ _ us hl => match us, hl with | [_, _], _ => rfl, PySem.W.mg_of X G n_check_ring⟩
  have F_check_marks := fun_mk (st := s_check_marks) l_check_marks c_check_marks k_check_marks
  have A_check_marks : At K mg "check_marks" s_check_marks ["places", "step", "marks"] _ _ := ⟨F_check_marks, F_check_marks.binds fun _ _ _ _ _ _ us hl => match us, hl with | [_, _, _], _ => rfl, PySem.W.mg_of X G n_check_marks⟩
  have F_check_stretch := fun_mk (st := s_check_stretch) l_check_stretch c_check_stretch k_check_stretch
  have A_check_stretch : At K mg "check_stretch" s_check_stretch ["places", "begin", "end"] _ _ := ⟨F_check_stretch, F_check_stretch.binds fun _ _ _ _ _ _ us hl => match us, hl with | [_, _, _], _ => rfl, PySem.W.mg_of X G n_check_stretch⟩
  have F_quotients := fun_mk (st := s_quotients) l_quotients c_quotients k_quotients
  have A_quotients : At K mg "quotients" s_quotients ["many", "by", "times", "more"] _ _ := ⟨F_quotients, F_quotients.binds fun _ _ _ _ _ _ us hl => match us, hl with | [_, _, _, _], _ => rfl, PySem.W.mg_of X G n_quotients⟩
  have F_marks_to := fun_mk (st := s_marks_to) l_marks_to c_marks_to k_marks_to
  have A_marks_to : At K mg "marks_to" s_marks_to ["places", "step", "marks", "place"] _ _ := ⟨F_marks_to, F_marks_to.binds fun _ _ _ _ _ _ us hl => match us, hl with | [_, _, _, _], _ => rfl, PySem.W.mg_of X G n_marks_to⟩
  have F_led_back := fun_mk (st := s_led_back) l_led_back c_led_back k_led_back
  have A_led_back : At K mg "led_back" s_led_back ["led", "mark"] _ _ := ⟨F_led_back, F_led_back.binds fun _ _ _ _ _ _ us hl => match us, hl with | [_, _], _ => rfl, PySem.W.mg_of X G n_led_back⟩
  have F_least_mark := fun_mk (st := s_least_mark) l_least_mark c_least_mark k_least_mark
  have A_least_mark : At K mg "least_mark" s_least_mark ["places", "step", "begin", "end"] _ _ := ⟨F_least_mark, F_least_mark.binds fun _ _ _ _ _ _ us hl => match us, hl with | [_, _, _, _], _ => rfl, PySem.W.mg_of X G n_least_mark⟩
  have F_first := fun_mk (st := s_first) l_first c_first k_first
  have A_first : At K mg "first" s_first ["places", "step", "begin", "end"] _ _ := ⟨F_first, F_first.binds fun _ _ _ _ _ _ us hl => match us, hl with | [_, _, _, _], _ => rfl, PySem.W.mg_of X G n_first⟩
  have F_count := fun_mk (st := s_count) l_count c_count k_count
  have A_count : At K mg "count" s_count ["places", "step", "marks", "begin", "end"] _ _ := ⟨F_count, F_count.binds fun _ _ _ _ _ _ us hl => match us, hl with | [_, _, _, _, _], _ => rfl, PySem.W.mg_of X G n_count⟩
  have F_check_mark := fun_mk (st := s_check_mark) l_check_mark c_check_mark k_check_mark
  have A_check_mark : At K mg "check_mark" s_check_mark ["mark", "marks"] _ _ := ⟨F_check_mark, F_check_mark.binds fun _ _ _ _ _ _ us hl => match us, hl with | [_, _], _ => rfl, PySem.W.mg_of X G n_check_mark⟩
  have F_turn_of := fun_mk (st := s_turn_of) l_turn_of c_turn_of k_turn_of
  have A_turn_of : At K mg "turn_of" s_turn_of ["places", "step", "marks", "mark"] _ _ := ⟨F_turn_of, F_turn_of.binds fun _ _ _ _ _ _ us hl => match us, hl with | [_, _, _, _], _ => rfl, PySem.W.mg_of X G n_turn_of⟩
  have F__law_row := fun_mk (st := s__law_row) l__law_row c__law_row k__law_row
  have A__law_row : At K mg "_law_row" s__law_row ["_law_many"] _ _ := ⟨F__law_row, F__law_row.binds fun _ _ _ _ _ _ us hl => match us, hl with | [_], _ => rfl, PySem.W.mg_of X G n__law_row⟩
  have F__law_sum := fun_mk (st := s__law_sum) l__law_sum c__law_sum k__law_sum
  have A__law_sum : At K mg "_law_sum" s__law_sum ["_law_many", "_law_by", "_law_times", "_law_more"] _ _ := ⟨F__law_sum, F__law_sum.binds fun _ _ _ _ _ _ us hl => match us, hl with | [_, _, _, _], _ => rfl, PySem.W.mg_of X G n__law_sum⟩
  have F__law_to := fun_mk (st := s__law_to) l__law_to c__law_to k__law_to
  have A__law_to : At K mg "_law_to" s__law_to ["_law_places", "_law_step", "_law_marks", "_law_place"] _ _ := ⟨F__law_to, F__law_to.binds fun _ _ _ _ _ _ us hl => match us, hl with | [_, _, _, _], _ => rfl, PySem.W.mg_of X G n__law_to⟩
  have F__law_first_right := fun_mk (st := s__law_first_right) l__law_first_right c__law_first_right k__law_first_right
  have A__law_first_right : At K mg "_law_first_right" s__law_first_right ["_law_places", "_law_step", "_law_begin", "_law_end"] _ _ := ⟨F__law_first_right, F__law_first_right.binds fun _ _ _ _ _ _ us hl => match us, hl with | [_, _, _, _], _ => rfl, PySem.W.mg_of X G n__law_first_right⟩
  have F__law_few_right := fun_mk (st := s__law_few_right) l__law_few_right c__law_few_right k__law_few_right
  have A__law_few_right : At K mg "_law_few_right" s__law_few_right ["_law_places", "_law_step", "_law_marks", "_law_more"] _ _ := ⟨F__law_few_right, F__law_few_right.binds fun _ _ _ _ _ _ us hl => match us, hl with | [_, _, _, _], _ => rfl, PySem.W.mg_of X G n__law_few_right⟩
  have F__law_never_right := fun_mk (st := s__law_never_right) l__law_never_right c__law_never_right k__law_never_right
  have A__law_never_right : At K mg "_law_never_right" s__law_never_right ["_law_places", "_law_step", "_law_spot"] _ _ := ⟨F__law_never_right, F__law_never_right.binds fun _ _ _ _ _ _ us hl => match us, hl with | [_, _, _], _ => rfl, PySem.W.mg_of X G n__law_never_right⟩
  have F_law := fun_mk (st := s_law) l_law c_law k_law
  have A_law : At K mg "law" s_law ["_law_script"] _ _ := ⟨F_law, F_law.binds fun _ _ _ _ _ _ us hl => match us, hl with | [_], _ => rfl, PySem.W.mg_of X G n_law⟩
  have F_First___init__ := fun_mk (st := s_First___init__) l_First___init__ c_First___init__ k_First___init__
  have B_First___init__ := F_First___init__.binds (ps := ["self", "mark"]) fun _ _ _ _ _ _ us hl => match us, hl with | [_, _], _ => rfl
  have F_First_shows := fun_mk (st := s_First_shows) l_First_shows c_First_shows k_First_shows
  have B_First_shows := F_First_shows.binds (ps := ["self", "places", "step", "begin", "end"]) fun _ _ _ _ _ _ us hl => match us, hl with | [_, _, _, _, _], _ => rfl
  have F_Never___init__ := fun_mk (st := s_Never___init__) l_Never___init__ c_Never___init__ k_Never___init__
  have B_Never___init__ := F_Never___init__.binds (ps := ["self", "common"]) fun _ _ _ _ _ _ us hl => match us, hl with | [_, _], _ => rfl
  have F_Never_shows := fun_mk (st := s_Never_shows) l_Never_shows c_Never_shows k_Never_shows
  have B_Never_shows := F_Never_shows.binds (ps := ["self", "places", "step", "begin", "end"]) fun _ _ _ _ _ _ us hl => match us, hl with | [_, _, _, _, _], _ => rfl
  have M_First : Mk K C_First a_First___init__ := ⟨mk_First, n_First___init__, i_First___init__, kc_First⟩
  have Cl_First : Cls K C_First := ⟨pg_First, hd_First, po_First, sa_First⟩
  have I_First : InsI K C_First := ⟨Cl_First, oc_First, ogt, otk, om_First⟩
  have M_First_g : mg "First" = some (.ref C_First) := PySem.W.mg_of X G n_First
  have M_Never : Mk K C_Never a_Never___init__ := ⟨mk_Never, n_Never___init__, i_Never___init__, kc_Never⟩
  have Cl_Never : Cls K C_Never := ⟨pg_Never, hd_Never, po_Never, sa_Never⟩
  have I_Never : InsI K C_Never := ⟨Cl_Never, oc_Never, ogt, otk, om_Never⟩
  have M_Never_g : mg "Never" = some (.ref C_Never) := PySem.W.mg_of X G n_Never
  have k_First_Never : PySem.W.kitOne K (.ref C_First) (.ref C_Never) = some false := kit_own ic_Never tc_Never ss_First_Never ss_Never
  have k_First_First : PySem.W.kitOne K (.ref C_First) (.ref C_First) = some true := kit_own ic_First tc_First ss_First ss_First
  have Me_First : Meth K C_First "shows" a_First_shows := ⟨n_First_shows, i_First_shows, k_First_shows⟩
  have k_Never_First : PySem.W.kitOne K (.ref C_Never) (.ref C_First) = some false := kit_own ic_First tc_First ss_Never_First ss_First
  have k_Never_Never : PySem.W.kitOne K (.ref C_Never) (.ref C_Never) = some true := kit_own ic_Never tc_Never ss_Never ss_Never
  have Me_Never : Meth K C_Never "shows" a_Never_shows := ⟨n_Never_shows, i_Never_shows, k_Never_shows⟩
  have E_BadPlaces : ErrAt K mg "BadPlaces" C_BadPlaces := ⟨x_BadPlaces, PySem.W.mg_of X G n_BadPlaces, k_BadPlaces, b_BadPlaces, t_BadPlaces⟩
  have E_BadStep : ErrAt K mg "BadStep" C_BadStep := ⟨x_BadStep, PySem.W.mg_of X G n_BadStep, k_BadStep, b_BadStep, t_BadStep⟩
  have E_BadMarks : ErrAt K mg "BadMarks" C_BadMarks := ⟨x_BadMarks, PySem.W.mg_of X G n_BadMarks, k_BadMarks, b_BadMarks, t_BadMarks⟩
  have E_BadPlace : ErrAt K mg "BadPlace" C_BadPlace := ⟨x_BadPlace, PySem.W.mg_of X G n_BadPlace, k_BadPlace, b_BadPlace, t_BadPlace⟩
  have E_BadMark : ErrAt K mg "BadMark" C_BadMark := ⟨x_BadMark, PySem.W.mg_of X G n_BadMark, k_BadMark, b_BadMark, t_BadMark⟩
  have hA : Blt mg := ⟨PySem.W.mg_none_of X G z_isinstance, PySem.W.mg_none_of X G z_int, PySem.W.mg_none_of X G z_bool, PySem.W.mg_none_of X G z_len, PySem.W.mg_none_of X G z_sum, PySem.W.mg_none_of X G z_min, PySem.W.mg_none_of X G z_max, PySem.W.mg_none_of X G z_sorted, PySem.W.mg_none_of X G z_range, PySem.W.mg_none_of X G z_enumerate, PySem.W.mg_none_of X G z_reversed, PySem.W.mg_none_of X G z_zip, PySem.W.mg_none_of X G z_abs, PySem.W.mg_none_of X G z_all, PySem.W.mg_none_of X G z_any, PySem.W.mg_none_of X G z_list, PySem.W.mg_none_of X G z_tuple, PySem.W.mg_none_of X G z_set, PySem.W.mg_none_of X G z_str, PySem.W.mg_none_of X G z_ValueError⟩
  refine ⟨_, fun s v => .of_eq (show bindArgs (PySem.W.fnOf "law" "law" (defArgs s_law) (defBody s_law) (defScope s_law) .none kV_law dc_law pm_law an_law cd_law ct_law) ⟨[v], []⟩ = _ from rfl), fun base _ _ => ?_⟩
  let c : Cs := ⟨C_BadPlaces, C_BadStep, C_BadMarks, C_BadPlace, C_BadMark⟩
  have G_is_number := ok_is_number (P := l.prog) (w := w) (base := base) hA F_is_number
  have G_common := ok_common (P := l.prog) (w := w) (mg := mg) (base := base) F_common
  have G_most_of := ok_most_of F_most_of G_common A_common
  have G_check_ring := ok_check_ring (c := c) F_check_ring G_is_number A_is_number E_BadPlaces E_BadStep
  have G_check_marks := ok_check_marks (c := c) F_check_marks G_is_number A_is_number G_most_of A_most_of G_check_ring A_check_ring E_BadMarks
  have G_check_stretch := ok_check_stretch (c := c) F_check_stretch G_is_number A_is_number E_BadPlace
  have G_check_mark := ok_check_mark (c := c) F_check_mark G_is_number A_is_number E_BadMark
  have G_quotients := ok_quotients (P := l.prog) (w := w) (mg := mg) (base := base) F_quotients
  have G_marks_to := ok_marks_to F_marks_to G_quotients A_quotients
  have G_count := quiet (ok_count (c := c) F_count G_check_marks A_check_marks G_check_stretch A_check_stretch G_marks_to A_marks_to)
  have G_turn_of := quiet (ok_turn_of (c := c) F_turn_of G_check_marks A_check_marks G_check_mark A_check_mark G_marks_to A_marks_to)
  have G_First___init__ := ok_First___init__ (P := l.prog) (w := w) (mg := mg) (base := base) Cl_First na_First_mark F_First___init__
  have G_Never___init__ := ok_Never___init__ (P := l.prog) (w := w) (mg := mg) (base := base) Cl_Never na_Never_common F_Never___init__
  have G_First_shows := ok_First_shows Cl_First na_First_mark F_First_shows G_is_number A_is_number G_marks_to A_marks_to
  have G_Never_shows := ok_Never_shows Cl_Never na_Never_common F_Never_shows G_is_number A_is_number
  have G_least_mark := ok_least_mark F_least_mark (fun P0 A0 B0 E1 => ok_led_back (P := l.prog) (w := w) (base := base) (P0 := P0) (A0 := A0) (B0 := B0) (E1 := E1) hA F_led_back) A_led_back
  have G_first := quiet (ok_first F_first G_check_ring A_check_ring G_check_stretch A_check_stretch G_common A_common G_least_mark A_least_mark M_First G_First___init__ M_First_g B_First___init__ M_Never G_Never___init__ M_Never_g B_Never___init__)
  have G__law_row := ok__law_row (P := l.prog) (w := w) (base := base) hA F__law_row
  have G__law_sum := ok__law_sum (P := l.prog) (w := w) (mg := mg) (base := base) F__law_sum
  have G__law_to := ok__law_to F__law_to G__law_sum A__law_sum
  have G__law_first_right := ok__law_first_right (c := c) I_First na_First_mark k_First_First hA F__law_first_right G__law_to A__law_to G_first A_first M_First G_First___init__ M_First_g B_First___init__ Me_First G_First_shows B_First_shows
  have G__law_few_right := ok__law_few_right (c := c) hA F__law_few_right G_turn_of A_turn_of G_count A_count
  have G__law_never_right := ok__law_never_right (c := c) I_Never na_Never_common k_Never_Never hA F__law_never_right G_first A_first M_Never_g Me_Never G_Never_shows B_Never_shows
  exact ok_law (c := c) I_First na_First_mark k_First_First M_First_g hA F_law G__law_row A__law_row G_first A_first G_turn_of A_turn_of G__law_first_right A__law_first_right G__law_few_right A__law_few_right G__law_never_right A__law_never_right
theorem walk {l : PySem.W.OpenLaw} {q : Program} {loose : List Str} {XP : (Str → Option Value) → Heap → Prop} {YP : World → Heap → Prop} {d : DefRec} {K : Params → PySem.W.Frag} (hn : l.most = some 63) (hdf : d.params.defaults = [])
    (hY : ∀ (w : World) (h : Heap), YP w h → (K w.params).In h)
    (F : ∀ (w : World) (mg : Str → Option Value) (fa : Addr) (h : Heap), (K w.params).In h → h.Ns mainGlobals mg → mg d.name = some (.ref fa) →
      ∃ fd : FuncData, (∀ (s : Shared) (u : Value), BindsTo s fd ⟨[u], []⟩ [("_law_script", u)]) ∧ ∀ base : Heap, (K w.params).In base → base.Ns mainGlobals mg → FnOk l.prog w (K w.params) mg base CX0 6 fa fd ["_law_script"] (spLaw (K w.params))) :
    PySem.W.WalkO q loose XP YP l.row.toRowW d [] (fun f vs => PySem.call f vs) :=
  L2.walk_ofB (n := 63) (k := 6) (x := "_law_script") (CX := fun _ => CX0) (sp := fun w => spLaw (K w.params)) hn (by decide) hdf ⟨rfl, by decide, by decide⟩ hY F (fun _ _ a ns hl hb _ hS => ⟨a, ns, rfl, hS, hl, fun z hz => lv_bits (hb z hz), fun _ => rfl⟩) fun _ _ _ _ _ z => z
end RP
open PySem PySem.W PyProof.Rows
set_option maxRecDepth 100000 in
set_option maxHeartbeats 0 in
theorem PySem.Challenge.cw_ringsteps_k09_great_however_holds : PySem.Challenge.rw_ringsteps_k09_great_however.Holds := by
  w_on; o_law; k_head; (case hw => w_witness2)
  k_fill
  refine RP.walk (l := PySem.Challenge.rw_ringsteps_k09_great_however) rfl rfl (fun w h Y => PySem.W.kIn_of Y) ?F
  case F =>
    intro w mg fa h KX G hmg
    refine' RP.all_mk KX G hmg ?n_First ?n_Never ?n_is_number ?l_is_number ?c_is_number ?k_is_number ?n_common ?l_common ?c_common ?k_common ?n_most_of ?l_most_of ?c_most_of ?k_most_of ?n_check_ring ?l_check_ring ?c_check_ring ?k_check_ring ?n_check_marks ?l_check_marks ?c_check_marks ?k_check_marks ?n_check_stretch ?l_check_stretch ?c_check_stretch ?k_check_stretch ?n_quotients ?l_quotients ?c_quotients ?k_quotients ?n_marks_to ?l_marks_to ?c_marks_to ?k_marks_to ?n_led_back ?l_led_back ?c_led_back ?k_led_back ?n_least_mark ?l_least_mark ?c_least_mark ?k_least_mark ?n_first ?l_first ?c_first ?k_first ?n_count ?l_count ?c_count ?k_count ?n_check_mark ?l_check_mark ?c_check_mark ?k_check_mark ?n_turn_of ?l_turn_of ?c_turn_of ?k_turn_of ?n__law_row ?l__law_row ?c__law_row ?k__law_row ?n__law_sum ?l__law_sum ?c__law_sum ?k__law_sum ?n__law_to ?l__law_to ?c__law_to ?k__law_to ?n__law_first_right ?l__law_first_right ?c__law_first_right ?k__law_first_right ?n__law_few_right ?l__law_few_right ?c__law_few_right ?k__law_few_right ?n__law_never_right ?l__law_never_right ?c__law_never_right ?k__law_never_right ?n_law ?l_law ?c_law ?k_law ?n_First___init__ ?i_First___init__ ?l_First___init__ ?c_First___init__ ?k_First___init__ ?n_First_shows ?i_First_shows ?l_First_shows ?c_First_shows ?k_First_shows ?n_Never___init__ ?i_Never___init__ ?l_Never___init__ ?c_Never___init__ ?k_Never___init__ ?n_Never_shows ?i_Never_shows ?l_Never_shows ?c_Never_shows ?k_Never_shows ?pg_First ?hd_First ?po_First ?sa_First ?na_First_mark ?mk_First ?kc_First ?oc_First ?om_First ?ic_First ?tc_First ?ss_First ?pg_Never ?hd_Never ?po_Never ?sa_Never ?na_Never_common ?mk_Never ?kc_Never ?oc_Never ?om_Never ?ic_Never ?tc_Never ?ss_Never ?ss_First_Never ?ss_Never_First ?ogt ?otk ?n_BadPlaces ?x_BadPlaces ?k_BadPlaces ?b_BadPlaces ?t_BadPlaces ?n_BadStep ?x_BadStep ?k_BadStep ?b_BadStep ?t_BadStep ?n_BadMarks ?x_BadMarks ?k_BadMarks ?b_BadMarks ?t_BadMarks ?n_BadPlace ?x_BadPlace ?k_BadPlace ?b_BadPlace ?t_BadPlace ?n_BadMark ?x_BadMark ?k_BadMark ?b_BadMark ?t_BadMark ?z_isinstance ?z_int ?z_bool ?z_len ?z_sum ?z_min ?z_max ?z_sorted ?z_range ?z_enumerate ?z_reversed ?z_zip ?z_abs ?z_all ?z_any ?z_list ?z_tuple ?z_set ?z_str ?z_ValueError
    (case n_First => k_is)
    (case n_Never => k_is)
    (case n_is_number => k_is)
    (case l_is_number => k_is)
    (case c_is_number => k_is)
    (case k_is_number => k_is)
    (case n_common => k_is)
    (case l_common => k_is)
    (case c_common => k_is)
    (case k_common => k_is)
    (case n_most_of => k_is)
    (case l_most_of => k_is)
    (case c_most_of => k_is)
    (case k_most_of => k_is)
    (case n_check_ring => k_is)
    (case l_check_ring => k_is)
    (case c_check_ring => k_is)
    (case k_check_ring => k_is)
    (case n_check_marks => k_is)
    (case l_check_marks => k_is)
    (case c_check_marks => k_is)
    (case k_check_marks => k_is)
    (case n_check_stretch => k_is)
    (case l_check_stretch => k_is)
    (case c_check_stretch => k_is)
    (case k_check_stretch => k_is)
    (case n_quotients => k_is)
    (case l_quotients => k_is)
    (case c_quotients => k_is)
    (case k_quotients => k_is)
    (case n_marks_to => k_is)
    (case l_marks_to => k_is)
    (case c_marks_to => k_is)
    (case k_marks_to => k_is)
    (case n_led_back => k_is)
    (case l_led_back => k_is)
    (case c_led_back => k_is)
    (case k_led_back => k_is)
    (case n_least_mark => k_is)
    (case l_least_mark => k_is)
    (case c_least_mark => k_is)
    (case k_least_mark => k_is)
    (case n_first => k_is)
    (case l_first => k_is)
    (case c_first => k_is)
    (case k_first => k_is)
    (case n_count => k_is)
    (case l_count => k_is)
    (case c_count => k_is)
    (case k_count => k_is)
    (case n_check_mark => k_is)
    (case l_check_mark => k_is)
    (case c_check_mark => k_is)
    (case k_check_mark => k_is)
    (case n_turn_of => k_is)
    (case l_turn_of => k_is)
    (case c_turn_of => k_is)
    (case k_turn_of => k_is)
    (case n__law_row => k_is)
    (case l__law_row => k_is)
    (case c__law_row => k_is)
    (case k__law_row => k_is)
    (case n__law_sum => k_is)
    (case l__law_sum => k_is)
    (case c__law_sum => k_is)
    (case k__law_sum => k_is)
    (case n__law_to => k_is)
    (case l__law_to => k_is)
    (case c__law_to => k_is)
    (case k__law_to => k_is)
    (case n__law_first_right => k_is)
    (case l__law_first_right => k_is)
    (case c__law_first_right => k_is)
    (case k__law_first_right => k_is)
    (case n__law_few_right => k_is)
    (case l__law_few_right => k_is)
    (case c__law_few_right => k_is)
    (case k__law_few_right => k_is)
    (case n__law_never_right => k_is)
    (case l__law_never_right => k_is)
    (case c__law_never_right => k_is)
    (case k__law_never_right => k_is)
    (case n_law => k_is)
    (case l_law => k_is)
    (case c_law => k_is)
    (case k_law => k_is)
    (case n_First___init__ => k_is)
    (case i_First___init__ => k_is)
    (case l_First___init__ => k_is)
    (case c_First___init__ => k_is)
    (case k_First___init__ => k_is)
    (case n_First_shows => k_is)
    (case i_First_shows => k_is)
    (case l_First_shows => k_is)
    (case c_First_shows => k_is)
    (case k_First_shows => k_is)
    (case n_Never___init__ => k_is)
    (case i_Never___init__ => k_is)
    (case l_Never___init__ => k_is)
    (case c_Never___init__ => k_is)
    (case k_Never___init__ => k_is)
    (case n_Never_shows => k_is)
    (case i_Never_shows => k_is)
    (case l_Never_shows => k_is)
    (case c_Never_shows => k_is)
    (case k_Never_shows => k_is)
    (case pg_First => k_is)
    (case hd_First => k_is)
    (case po_First => k_is)
    (case sa_First => k_is)
    (case na_First_mark => k_is)
    (case mk_First => k_is)
    (case kc_First => k_is)
    (case oc_First => k_is)
    (case om_First => k_is)
    (case ic_First => k_is)
    (case tc_First => k_is)
    (case ss_First => k_is)
    (case pg_Never => k_is)
    (case hd_Never => k_is)
    (case po_Never => k_is)
    (case sa_Never => k_is)
    (case na_Never_common => k_is)
    (case mk_Never => k_is)
    (case kc_Never => k_is)
    (case oc_Never => k_is)
    (case om_Never => k_is)
    (case ic_Never => k_is)
    (case tc_Never => k_is)
    (case ss_Never => k_is)
    (case ss_First_Never => k_is)
    (case ss_Never_First => k_is)
    (case ogt => k_is)
    (case otk => k_is)
    (case n_BadPlaces => k_is)
    (case x_BadPlaces => k_exc)
    (case k_BadPlaces => k_is)
    (case b_BadPlaces => k_is)
    (case t_BadPlaces => k_is)
    (case n_BadStep => k_is)
    (case x_BadStep => k_exc)
    (case k_BadStep => k_is)
    (case b_BadStep => k_is)
    (case t_BadStep => k_is)
    (case n_BadMarks => k_is)
    (case x_BadMarks => k_exc)
    (case k_BadMarks => k_is)
    (case b_BadMarks => k_is)
    (case t_BadMarks => k_is)
    (case n_BadPlace => k_is)
    (case x_BadPlace => k_exc)
    (case k_BadPlace => k_is)
    (case b_BadPlace => k_is)
    (case t_BadPlace => k_is)
    (case n_BadMark => k_is)
    (case x_BadMark => k_exc)
    (case k_BadMark => k_is)
    (case b_BadMark => k_is)
    (case t_BadMark => k_is)
    (case z_isinstance => k_is)
    (case z_int => k_is)
    (case z_bool => k_is)
    (case z_len => k_is)
    (case z_sum => k_is)
    (case z_min => k_is)
    (case z_max => k_is)
    (case z_sorted => k_is)
    (case z_range => k_is)
    (case z_enumerate => k_is)
    (case z_reversed => k_is)
    (case z_zip => k_is)
    (case z_abs => k_is)
    (case z_all => k_is)
    (case z_any => k_is)
    (case z_list => k_is)
    (case z_tuple => k_is)
    (case z_set => k_is)
    (case z_str => k_is)
    (case z_ValueError => k_is)
