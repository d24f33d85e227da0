import PyProof.Rows.All
import Wide.All
import OpenK.AllK
import Wide.FinOn
import HandS.ForMost
import HandS.ForExc
import HandS.Star
import HandS.Defaults
import HandS.TryMany
import HandS.IsInst
import HandS.Wide
import KE.KStateDown
import HandS.Head0
import HandS.Head1
import HandS.Head2
import HandS.HeadEnd
import HandS.HeadHook1
import HandS.HeadHook2
import HandS.Style
import HandS.TupLe
import HandS.Property
import HandS.ClsMeth
import HandS.OwnEq
import HandS.More
import HandS.SlotsOwn
import HandS.HeadNt
import HandS.CallLocal
import HandS.TryOnly
import HandS.WideMore
import PySem.Challenge.RW_latticeshapes_k07_whole_maps_composed
set_option Elab.async false
set_option linter.all false
set_option maxRecDepth 100000
set_option maxHeartbeats 2000000
/-! Floor sums, in plain Lean. -/
namespace FS
/-- the sum of (a * i + b) / m for i below n -/
def fs : Nat → Int → Int → Int → Int
  | 0, _, _, _ => 0
  | n + 1, a, b, m => fs n a b m + (a * n + b) / m
/-- 0 + 1 + .. + (n - 1) -/
def tri : Nat → Int
  | 0 => 0
  | n + 1 => tri n + n
theorem two_tri : ∀ n : Nat, 2 * tri n = (n : Int) * ((n : Int) - 1)
  | 0 => by decide
  | n + 1 => by
    have ih := two_tri n
    show 2 * (tri n + n) = ((n + 1 : Nat) : Int) * (((n + 1 : Nat) : Int) - 1)
    rw [Int.mul_add, ih]
    have e : ((n + 1 : Nat) : Int) = (n : Int) + 1 := by omega
    rw [e, Int.add_sub_cancel, Int.add_mul, Int.one_mul, Int.mul_sub, Int.mul_one]
    omega
theorem tri_eq (n : Nat) : (n : Int) * ((n : Int) - 1) / 2 = tri n := by
  rw [← two_tri n]
  exact Int.mul_ediv_cancel_left _ (by decide)
theorem fs_split (n : Nat) (a b m : Int) : ∀ k : Nat, fs (n + k) a b m = fs n a b m + fs k a (a * n + b) m
  | 0 => by simp [fs]
  | k + 1 => by
    show fs (n + k) a b m + (a * ((n + k : Nat) : Int) + b) / m = fs n a b m + (fs k a (a * n + b) m + (a * (k : Int) + (a * n + b)) / m)
    rw [fs_split n a b m k]
    have e : a * ((n + k : Nat) : Int) + b = a * (k : Int) + (a * n + b) := by
      rw [Int.natCast_add, Int.mul_add]; omega
    rw [e]
    omega
theorem fs_addB {m : Int} (hm : m ≠ 0) (a b q : Int) : ∀ n : Nat, fs n a (b + m * q) m = fs n a b m + n * q
  | 0 => by simp [fs]
  | n + 1 => by
    show fs n a (b + m * q) m + (a * n + (b + m * q)) / m = fs n a b m + (a * n + b) / m + ((n + 1 : Nat) : Int) * q
    rw [fs_addB hm a b q n]
    have e : a * n + (b + m * q) = (a * n + b) + m * q := by omega
    rw [e, Int.add_mul_ediv_left _ _ hm]
    have e2 : ((n + 1 : Nat) : Int) * q = n * q + q := by rw [Int.natCast_add, Int.add_mul]; omega
    rw [e2]
    omega
theorem fs_addA {m : Int} (hm : m ≠ 0) (a b q : Int) : ∀ n : Nat, fs n (a + m * q) b m = fs n a b m + tri n * q
  | 0 => by simp [fs, tri]
  | n + 1 => by
    show fs n (a + m * q) b m + ((a + m * q) * n + b) / m = fs n a b m + (a * n + b) / m + (tri n + n) * q
    rw [fs_addA hm a b q n]
    have e : (a + m * q) * n + b = (a * n + b) + m * (q * n) := by
      rw [Int.add_mul, Int.mul_assoc]; omega
    rw [e, Int.add_mul_ediv_left _ _ hm, Int.add_mul, Int.mul_comm q]
    omega
theorem fs_norm {m : Int} (hm : m ≠ 0) (n : Nat) (a b : Int) : fs n a b m = tri n * (a / m) + n * (b / m) + fs n (a % m) (b % m) m := by
  have ea : a = a % m + m * (a / m) := (Int.emod_add_mul_ediv a m).symm
  have eb : b = b % m + m * (b / m) := (Int.emod_add_mul_ediv b m).symm
  have h1 := fs_addA hm (a % m) b (a / m) n
  rw [← ea] at h1
  have h2 := fs_addB hm (a % m) (b % m) (b / m) n
  rw [← eb] at h2
  rw [h1, h2]
  omega
theorem fs_zero {a b m : Int} (ha : 0 ≤ a) (hb : 0 ≤ b) : ∀ n : Nat, a * n + b < m + a → fs n a b m = 0
  | 0, _ => rfl
  | n + 1, h => by
    have e : a * ((n + 1 : Nat) : Int) = a * n + a := by rw [Int.natCast_add, Int.mul_add]; omega
    rw [e] at h
    have h0 : 0 ≤ a * (n : Int) := Int.mul_nonneg ha (by omega)
    show fs n a b m + (a * n + b) / m = 0
    rw [fs_zero ha hb n (by omega), Int.ediv_eq_zero_of_lt (by omega) (by omega)]
    rfl
theorem ediv_bounds {x m : Int} (hm : 0 < m) : m * (x / m) ≤ x ∧ x < m * (x / m) + m := by
  have h1 := Int.emod_add_mul_ediv x m
  have h2 := Int.emod_nonneg x (show m ≠ 0 by omega)
  have h3 := Int.emod_lt_of_pos x hm
  omega
theorem fs_swap {a b m : Int} (ha : 0 < a) (hb : 0 ≤ b) (hbm : b < m) : ∀ n : Nat, fs n a b m = fs ((a * n + b) / m).toNat m ((a * n + b) % m) a
  | 0 => by
    have e : (a * ((0 : Nat) : Int) + b) / m = 0 := by
      rw [Int.natCast_zero, Int.mul_zero, Int.zero_add]
      exact Int.ediv_eq_zero_of_lt hb hbm
    rw [e]
    rfl
  | n + 1 => by
    have hm : 0 < m := by omega
    have ih := fs_swap ha hb hbm n
    have en : a * ((n + 1 : Nat) : Int) + b = (a * n + b) + a := by rw [Int.natCast_add, Int.mul_add]; omega
    rw [en]
    generalize hT : a * (n : Int) + b = T at ih ⊢
    have hT0 : 0 ≤ T := by
      have : 0 ≤ a * (n : Int) := Int.mul_nonneg (by omega) (by omega)
      omega
    have hy0 : 0 ≤ T / m := Int.ediv_nonneg hT0 (by omega)
    have hyle : T / m ≤ (T + a) / m := Int.ediv_le_ediv hm (by omega)
    obtain ⟨y, hy⟩ : ∃ y : Nat, T / m = y := ⟨(T / m).toNat, by omega⟩
    obtain ⟨d, hd⟩ : ∃ d : Nat, (T + a) / m = d + y := ⟨((T + a) / m - T / m).toNat, by omega⟩
    have r1 := Int.emod_add_mul_ediv T m
    have r2 := Int.emod_add_mul_ediv (T + a) m
    have r3 := Int.emod_nonneg T (show m ≠ 0 by omega)
    have r4 := Int.emod_lt_of_pos T hm
    have r5 := Int.emod_nonneg (T + a) (show m ≠ 0 by omega)
    have r6 := Int.emod_lt_of_pos (T + a) hm
    rw [hy] at r1
    rw [hd] at r2
    show fs n a b m + (a * (n : Int) + b) / m = _
    rw [hT, ih, hy, hd]
    have e1 : ((d : Int) + (y : Int)).toNat = d + y := by omega
    have e2 : ((y : Int)).toNat = y := by omega
    rw [e1, e2, fs_split d m ((T + a) % m) a y]
    have e3 : m * ((d : Int) + y) = m * d + m * y := Int.mul_add ..
    have e4 : m * (d : Int) + (T + a) % m = T % m + a * 1 := by omega
    rw [e4, fs_addB (show a ≠ 0 by omega), fs_zero (by omega) r5 d (by omega)]
    omega
/-! ### two sums that a program reckons in another way -/
/-- the pairs i, n - 1 - i .. of a period: over i below m the floors of p * i / m, by the greatest common divisor -/
def cnt (p : Nat → Bool) : Nat → Nat
  | 0 => 0
  | n + 1 => cnt p n + if p n then 1 else 0
theorem fs_rev (a b m : Int) : ∀ n : Nat, fs n a b m = fs n (-a) (a * ((n : Int) - 1) + b) m
  | n => by
    have key : ∀ (n : Nat) (c : Int), fs (n + 1) a c m = c / m + fs n a (a + c) m := fun n c => by
      have h := fs_split 1 a c m n
      rw [Nat.add_comm 1 n] at h
      rw [h]
      have e : fs 1 a c m = c / m := by simp [fs]
      have e2 : a * ((1 : Nat) : Int) + c = a + c := by simp
      rw [e, e2]
    have go : ∀ (n : Nat) (c : Int), fs n a c m = fs n (-a) (a * ((n : Int) - 1) + c) m := by
      intro n
      induction n with
      | zero => intro c; rfl
      | succ n ih =>
        intro c
        rw [key n c, ih (a + c)]
        show _ = fs n (-a) (a * (((n + 1 : Nat) : Int) - 1) + c) m + ((-a) * n + (a * (((n + 1 : Nat) : Int) - 1) + c)) / m
        have e1 : a * ((n : Int) - 1) + (a + c) = a * (((n + 1 : Nat) : Int) - 1) + c := by
          have : ((n + 1 : Nat) : Int) - 1 = n := by omega
          rw [this, Int.mul_sub]; omega
        have e2 : (-a) * (n : Int) + (a * (((n + 1 : Nat) : Int) - 1) + c) = c := by
          have : ((n + 1 : Nat) : Int) - 1 = n := by omega
          rw [this, Int.neg_mul]; omega
        rw [e1, e2]
        omega
    exact go n b
/-- x / m + (k * m - x) / m -/
theorem div_pair {m : Int} (hm : 0 < m) (x k : Int) : x / m + (m * k - x) / m = if x % m = 0 then k else k - 1 := by
  have h1 := Int.emod_add_mul_ediv x m
  have h2 := Int.emod_nonneg x (show m ≠ 0 by omega)
  have h3 := Int.emod_lt_of_pos x hm
  by_cases h : x % m = 0
  · rw [if_pos h]
    have e : m * k - x = m * (k - x / m) := by rw [Int.mul_sub]; omega
    rw [e, Int.mul_ediv_cancel_left _ (by omega)]
    omega
  · rw [if_neg h]
    have e0 : m * (k - x / m - 1) = m * k - m * (x / m) - m := by rw [Int.mul_sub, Int.mul_sub, Int.mul_one]
    have e : m * k - x = (m - x % m) + m * (k - x / m - 1) := by rw [e0]; omega
    rw [e, Int.add_mul_ediv_left _ _ (show m ≠ 0 by omega), Int.ediv_eq_zero_of_lt (show 0 ≤ m - x % m by omega) (show m - x % m < m by omega)]
    omega
/-- the sum of the floors of p * i / m for i below n, and of their partners -/
theorem fs_pair {m p : Int} (hm : 0 < m) : ∀ n : Nat, fs n p 0 m + fs n (-p) (m * p) m = n * p - n + cnt (fun i => decide ((p * i) % m = 0)) n
  | 0 => by simp [fs, cnt]
  | n + 1 => by
    have ih := fs_pair (p := p) hm n
    show (fs n p 0 m + (p * n + 0) / m) + (fs n (-p) (m * p) m + ((-p) * n + m * p) / m) = _ - _ + ((cnt _ n + _ : Nat) : Int)
    have d := div_pair hm (p * n) p
    have e1 : (-p) * (n : Int) + m * p = m * p - p * n := by rw [Int.neg_mul]; omega
    have e2 : ((n + 1 : Nat) : Int) * p = n * p + p := by rw [Int.natCast_add, Int.add_mul]; omega
    rw [e1, e2, Int.add_zero]
    by_cases h : (p * n) % m = 0
    · rw [if_pos h] at d
      simp only [h, decide_true, if_true]
      omega
    · rw [if_neg h] at d
      simp only [h, decide_false, Bool.false_eq_true, if_false]
      omega
/-- how many i below m have m as a divisor of p * i: the greatest common divisor -/
theorem cnt_add (q : Nat → Bool) (n : Nat) : ∀ k, cnt q (n + k) = cnt q n + cnt (fun i => q (n + i)) k
  | 0 => rfl
  | k + 1 => by
    show cnt q (n + k) + (if q (n + k) then 1 else 0) = cnt q n + (cnt (fun i => q (n + i)) k + (if q (n + k) then 1 else 0))
    rw [cnt_add q n k]
    omega
theorem cnt_congr {q r : Nat → Bool} : ∀ {n : Nat}, (∀ i, i < n → q i = r i) → cnt q n = cnt r n
  | 0, _ => rfl
  | n + 1, h => by
    show cnt q n + _ = cnt r n + _
    rw [cnt_congr fun i hi => h i (by omega), h n (by omega)]
theorem cnt_none {q : Nat → Bool} : ∀ {n : Nat}, (∀ i, i < n → q i = false) → cnt q n = 0
  | 0, _ => rfl
  | n + 1, h => by
    show cnt q n + _ = 0
    rw [cnt_none fun i hi => h i (by omega), h n (by omega)]
    rfl
/-- multiples of d below d * k -/
theorem cnt_dvd {d : Nat} (hd : 0 < d) : ∀ k : Nat, cnt (fun i => decide (d ∣ i)) (d * k) = k
  | 0 => rfl
  | k + 1 => by
    rw [Nat.mul_succ, cnt_add, cnt_dvd hd k]
    obtain ⟨e, rfl⟩ : ∃ e, d = e + 1 := ⟨d - 1, by omega⟩
    have h1 : cnt (fun i => decide ((e + 1) ∣ ((e + 1) * k + i))) (e + 1) = 1 := by
      rw [Nat.add_comm e 1, cnt_add]
      have z : cnt (fun i => decide ((1 + e) ∣ ((1 + e) * k + (1 + i)))) e = 0 := cnt_none fun i hi => by
        refine decide_eq_false fun hdv => ?_
        have h2 : (1 + e) ∣ (1 + i) := (Nat.dvd_add_right (Nat.dvd_mul_right (1 + e) k)).mp hdv
        have := Nat.le_of_dvd (by omega) h2
        omega
      rw [z]
      show 0 + (if decide ((1 + e) ∣ ((1 + e) * k + 0)) then 1 else 0) + 0 = 1
      have q : decide ((1 + e) ∣ ((1 + e) * k + 0)) = true := decide_eq_true (by rw [Nat.add_zero]; exact Nat.dvd_mul_right _ _)
      rw [q]
      rfl
    rw [h1]
theorem cnt_gcd {p m : Nat} (hm : 0 < m) : cnt (fun i => decide (m ∣ p * i)) m = Nat.gcd p m := by
  have hg : 0 < Nat.gcd p m := Nat.gcd_pos_of_pos_right _ hm
  obtain ⟨p', hp⟩ := Nat.gcd_dvd_left p m
  obtain ⟨m', hm'⟩ := Nat.gcd_dvd_right p m
  have hm'0 : 0 < m' := by
    rcases Nat.eq_zero_or_pos m' with z | z
    · rw [z, Nat.mul_zero] at hm'; omega
    · exact z
  have hc : Nat.Coprime m' p' := by
    have h := Nat.gcd_mul_left (Nat.gcd p m) p' m'
    rw [← hp, ← hm'] at h
    have h1 : Nat.gcd p' m' = 1 := by
      have h2 : Nat.gcd p m * 1 = Nat.gcd p m * Nat.gcd p' m' := by rw [Nat.mul_one]; exact h
      exact (Nat.eq_of_mul_eq_mul_left hg h2).symm
    rw [Nat.Coprime, Nat.gcd_comm]
    exact h1
  have e : ∀ i, decide (m ∣ p * i) = decide (m' ∣ i) := fun i => by
    have : m ∣ p * i ↔ m' ∣ i := by
      constructor
      · intro h
        have h' : Nat.gcd p m * m' ∣ Nat.gcd p m * (p' * i) := by
          rw [← Nat.mul_assoc, ← hp, ← hm']
          exact h
        exact hc.dvd_of_dvd_mul_left (Nat.dvd_of_mul_dvd_mul_left hg h')
      · rintro ⟨k, rfl⟩
        refine ⟨p' * k, ?_⟩
        have h1 : p * (m' * k) = (Nat.gcd p m * p') * (m' * k) := by rw [← hp]
        have h2 : m * (p' * k) = (Nat.gcd p m * m') * (p' * k) := by rw [← hm']
        rw [h1, h2]
        ac_rfl
    by_cases h : m ∣ p * i
    · rw [decide_eq_true h, decide_eq_true (this.mp h)]
    · rw [decide_eq_false h, decide_eq_false fun z => h (this.mpr z)]
  have e2 : (fun i => decide (m ∣ p * i)) = fun i => decide (m' ∣ i) := funext e
  rw [e2]
  have e3 : m = m' * Nat.gcd p m := by rw [Nat.mul_comm]; exact hm'
  have h := cnt_dvd hm'0 (Nat.gcd p m)
  rw [← e3] at h
  exact h
/-- twice the sum over a period -/
theorem fs_period {p m : Nat} (hm : 0 < m) : 2 * fs m p 0 m = ((p : Int) - 1) * ((m : Int) - 1) + (Nat.gcd p m : Int) - 1 := by
  have h := fs_pair (p := (p : Int)) (m := (m : Int)) (by omega) m
  have e : cnt (fun i => decide (((p : Int) * (i : Nat)) % (m : Int) = 0)) m = Nat.gcd p m := by
    rw [← cnt_gcd hm]
    refine cnt_congr fun i _ => ?_
    have : ((p : Int) * (i : Nat)) % (m : Int) = 0 ↔ m ∣ p * i := by
      rw [← Int.natCast_mul, ← Int.natCast_emod]
      rw [Nat.dvd_iff_mod_eq_zero]
      omega
    by_cases q : m ∣ p * i
    · rw [decide_eq_true q, decide_eq_true (this.mpr q)]
    · rw [decide_eq_false q, decide_eq_false fun z => q (this.mp z)]
  rw [e] at h
  have r := fs_rev (p : Int) 0 (m : Int) m
  have e1 : (p : Int) * ((m : Int) - 1) + 0 = (m : Int) * p + (-(p : Int)) := by rw [Int.mul_sub, Int.mul_comm (p : Int)]; omega
  rw [e1] at r
  have s1 := fs_split 1 (-(p : Int)) ((m : Int) * p) (m : Int) m
  have s2 := fs_split m (-(p : Int)) ((m : Int) * p) (m : Int) 1
  rw [Nat.add_comm] at s1
  rw [s1] at s2
  have f1 : ∀ c : Int, fs 1 (-(p : Int)) c m = c / m := fun c => by simp [fs]
  rw [f1, f1] at s2
  have g1 : (m : Int) * (p : Int) / m = p := Int.mul_ediv_cancel_left _ (by omega)
  have g2 : (-(p : Int) * (m : Int) + (m : Int) * p) / m = 0 := by
    have : -(p : Int) * (m : Int) + (m : Int) * p = 0 := by rw [Int.neg_mul, Int.mul_comm (m : Int)]; omega
    rw [this, Int.zero_ediv]
  rw [g1, g2] at s2
  have g3 : -(p : Int) * ((1 : Nat) : Int) + (m : Int) * p = (m : Int) * p + -(p : Int) := by
    have : -(p : Int) * ((1 : Nat) : Int) = -(p : Int) := by simp
    rw [this]; omega
  rw [g3] at s2
  have g4 : ((p : Int) - 1) * ((m : Int) - 1) = (m : Int) * p - p - m + 1 := by
    rw [Int.sub_mul, Int.mul_sub, Int.mul_comm (p : Int)]; omega
  rw [g4]
  omega
end FS
/-! sizes of whole numbers -/
namespace FS
def Bt (k : Nat) (x : Int) : Prop := x.natAbs < 2 ^ k
theorem Bt.mono {j k : Nat} {x : Int} (h : Bt j x) (e : j ≤ k) : Bt k x := Nat.lt_of_lt_of_le h (Nat.pow_le_pow_right (by decide) e)
theorem Bt.mul {j k : Nat} {x y : Int} (h : Bt j x) (g : Bt k y) : Bt (j + k) (x * y) := by
  unfold Bt at *
  rw [Int.natAbs_mul, Nat.pow_add]
  exact Nat.lt_of_le_of_lt (Nat.mul_le_mul (Nat.le_of_lt h) (Nat.le_refl _)) (Nat.mul_lt_mul_of_pos_left g (Nat.two_pow_pos j))
theorem Bt.add {k : Nat} {x y : Int} (h : Bt k x) (g : Bt k y) : Bt (k + 1) (x + y) := by
  unfold Bt at *
  rw [Nat.pow_succ]
  omega
theorem Bt.sub {k : Nat} {x y : Int} (h : Bt k x) (g : Bt k y) : Bt (k + 1) (x - y) := by
  unfold Bt at *
  rw [Nat.pow_succ]
  omega
theorem Bt.neg {k : Nat} {x : Int} (h : Bt k x) : Bt k (-x) := by
  unfold Bt at *
  omega
theorem Bt.div {k : Nat} {x m : Int} (hm : 0 < m) (h : Bt k x) : Bt k (x / m) := by
  unfold Bt at *
  have h1 := Int.emod_add_mul_ediv x m
  have h2 := Int.emod_nonneg x (show m ≠ 0 by omega)
  have h3 := Int.emod_lt_of_pos x hm
  rcases Int.lt_or_le (x / m) 0 with q | q
  · have : m * (x / m) ≤ 1 * (x / m) := Int.mul_le_mul_of_nonpos_right (by omega) (by omega)
    have e : m * (x / m) ≤ m * (-1) := Int.mul_le_mul_of_nonneg_left (by omega) (by omega)
    have f : m * (x / m) + m = m * (x / m + 1) := by rw [Int.mul_add, Int.mul_one]
    have g : m * (x / m + 1) ≤ 1 * (x / m + 1) := Int.mul_le_mul_of_nonpos_right (by omega) (by omega)
    omega
  · have : 1 * (x / m) ≤ m * (x / m) := Int.mul_le_mul_of_nonneg_right (by omega) q
    omega
theorem Bt.mod {k : Nat} {x m : Int} (hm : 0 < m) (h : Bt k m) : Bt k (x % m) := by
  unfold Bt at *
  have h2 := Int.emod_nonneg x (show m ≠ 0 by omega)
  have h3 := Int.emod_lt_of_pos x hm
  omega
theorem Bt.of {k : Nat} {x : Int} (h1 : -(2 ^ k) < x) (h2 : x < 2 ^ k) : Bt k x := by
  unfold Bt
  have e : ((2 ^ k : Nat) : Int) = (2 : Int) ^ k := by simp
  omega
theorem Bt.lt {k : Nat} {x : Int} (h : Bt k x) : -(2 ^ k) < x ∧ x < 2 ^ k := by
  unfold Bt at h
  have e : ((2 ^ k : Nat) : Int) = (2 : Int) ^ k := by simp
  omega
theorem Bt.le {k : Nat} {x y : Int} (h : Bt k y) (h0 : 0 ≤ x) (h1 : x ≤ y) : Bt k x := by
  unfold Bt at *
  omega
end FS
/-! finite orders of grid maps, plain -/
namespace GO
structure S6 where
  a : Int
  b : Int
  c : Int
  d : Int
  e : Int
  f : Int
def th (g h : S6) : S6 := ⟨h.a * g.a + h.b * g.c, h.a * g.b + h.b * g.d, h.c * g.a + h.d * g.c, h.c * g.b + h.d * g.d, h.a * g.e + h.b * g.f + h.e, h.c * g.e + h.d * g.f + h.f⟩
def one : S6 := ⟨1, 0, 0, 1, 0, 0⟩
def pw (m : S6) : Nat → S6
  | 0 => m
  | n + 1 => th (pw m n) m
/-- s 0 = 0, s 1 = 1, s (n + 2) = t s (n + 1) - k s n -/
def sq (t k : Int) : Nat → Int × Int
  | 0 => (0, 1)
  | n + 1 => let p := sq t k n; (p.2, t * p.2 - k * p.1)
/-- the matrix of the n + 1-st power -/
theorem mat (m : S6) : ∀ n : Nat, (pw m n).a = (sq (m.a + m.d) (m.a * m.d - m.b * m.c) n).2 * m.a - (m.a * m.d - m.b * m.c) * (sq (m.a + m.d) (m.a * m.d - m.b * m.c) n).1
    ∧ (pw m n).b = (sq (m.a + m.d) (m.a * m.d - m.b * m.c) n).2 * m.b ∧ (pw m n).c = (sq (m.a + m.d) (m.a * m.d - m.b * m.c) n).2 * m.c
    ∧ (pw m n).d = (sq (m.a + m.d) (m.a * m.d - m.b * m.c) n).2 * m.d - (m.a * m.d - m.b * m.c) * (sq (m.a + m.d) (m.a * m.d - m.b * m.c) n).1
  | 0 => by simp [pw, sq]
  | n + 1 => by
    obtain ⟨h1, h2, h3, h4⟩ := mat m n
    simp only [pw, th, sq]
    generalize (sq (m.a + m.d) (m.a * m.d - m.b * m.c) n).1 = x at *
    generalize (sq (m.a + m.d) (m.a * m.d - m.b * m.c) n).2 = y at *
    rw [h1, h2, h3, h4]
    refine ⟨?_, ?_, ?_, ?_⟩ <;> grind
theorem p3 {m : S6} (h : m.a * m.d - m.b * m.c = 1) (t : m.a + m.d = -1) : pw m 2 = one := by
  obtain ⟨a, b, c, d, e, f⟩ := m
  simp only at h t
  simp only [pw, th, one, S6.mk.injEq]
  refine ⟨?_, ?_, ?_, ?_, ?_, ?_⟩ <;> grind
theorem p4 {m : S6} (h : m.a * m.d - m.b * m.c = 1) (t : m.a + m.d = 0) : pw m 3 = one := by
  obtain ⟨a, b, c, d, e, f⟩ := m
  simp only at h t
  simp only [pw, th, one, S6.mk.injEq]
  refine ⟨?_, ?_, ?_, ?_, ?_, ?_⟩ <;> grind
theorem th_assoc (g h k : S6) : th (th g h) k = th g (th h k) := by
  obtain ⟨a, b, c, d, e, f⟩ := g
  obtain ⟨a', b', c', d', e', f'⟩ := h
  obtain ⟨a'', b'', c'', d'', e'', f''⟩ := k
  simp only [th, S6.mk.injEq]
  refine ⟨?_, ?_, ?_, ?_, ?_, ?_⟩ <;> grind
theorem pw_add (m : S6) (i : Nat) : ∀ j : Nat, pw m (i + j + 1) = th (pw m i) (pw m j)
  | 0 => rfl
  | j + 1 => by
    show th (pw m (i + j + 1)) m = th (pw m i) (th (pw m j) m)
    rw [pw_add m i j, th_assoc]
/-- the identity's matrix, shifted by u, v -/
theorem sh_th (u v u' v' : Int) : th ⟨1, 0, 0, 1, u, v⟩ ⟨1, 0, 0, 1, u', v'⟩ = ⟨1, 0, 0, 1, u + u', v + v'⟩ := by
  simp only [th, S6.mk.injEq]
  refine ⟨?_, ?_, ?_, ?_, ?_, ?_⟩ <;> omega
theorem p6 {m : S6} (h : m.a * m.d - m.b * m.c = 1) (t : m.a + m.d = 1) : pw m 5 = one := by
  have e : ∃ u v, pw m 2 = ⟨-1, 0, 0, -1, u, v⟩ := by
    obtain ⟨a, b, c, d, e, f⟩ := m
    simp only at h t
    refine ⟨(pw ⟨a, b, c, d, e, f⟩ 2).e, (pw ⟨a, b, c, d, e, f⟩ 2).f, ?_⟩
    simp only [pw, th, S6.mk.injEq, and_true]
    refine ⟨?_, ?_, ?_, ?_⟩ <;> grind
  obtain ⟨u, v, e⟩ := e
  rw [pw_add m 2 2, e]
  simp only [th, one, S6.mk.injEq]
  refine ⟨?_, ?_, ?_, ?_, ?_, ?_⟩ <;> omega
theorem p2 {m : S6} (h : m.a * m.d - m.b * m.c = -1) (t : m.a + m.d = 0) : ∃ u v, pw m 1 = ⟨1, 0, 0, 1, u, v⟩ := by
  obtain ⟨a, b, c, d, e, f⟩ := m
  simp only at h t
  refine ⟨(pw ⟨a, b, c, d, e, f⟩ 1).e, (pw ⟨a, b, c, d, e, f⟩ 1).f, ?_⟩
  simp only [pw, th, S6.mk.injEq, and_true]
  refine ⟨?_, ?_, ?_, ?_⟩ <;> grind
theorem grow {t k : Int} (ht : 2 ≤ t.natAbs) (hk : k.natAbs = 1) : ∀ n, (sq t k n).1.natAbs < (sq t k n).2.natAbs
  | 0 => (show (0 : Int).natAbs < (1 : Int).natAbs by decide)
  | n + 1 => by
    have ih := grow ht hk n
    simp only [sq]
    generalize (sq t k n).1 = x at *
    generalize (sq t k n).2 = y at *
    have h1 : (t * y).natAbs = t.natAbs * y.natAbs := Int.natAbs_mul t y
    have h2 : (k * x).natAbs = x.natAbs := by rw [Int.natAbs_mul, hk, Nat.one_mul]
    have h3 : 2 * y.natAbs ≤ t.natAbs * y.natAbs := Nat.mul_le_mul_right _ ht
    omega
theorem pw_sh (e f : Int) : ∀ n : Nat, pw ⟨1, 0, 0, 1, e, f⟩ n = ⟨1, 0, 0, 1, ((n : Int) + 1) * e, ((n : Int) + 1) * f⟩
  | 0 => by simp [pw]
  | n + 1 => by
    show th (pw _ n) _ = _
    rw [pw_sh e f n, sh_th]
    simp only [S6.mk.injEq, true_and]
    have : ((n + 1 : Nat) : Int) = (n : Int) + 1 := by omega
    rw [this]
    constructor <;> grind
/-- a finite order of at most 12 is one of at most 6 -/
theorem fin {m : S6} (ok : m.a * m.d - m.b * m.c = 1 ∨ m.a * m.d - m.b * m.c = -1) {n : Nat} (h6 : 6 ≤ n) (h12 : n < 12) (h : pw m n = one) : ∃ k, k < 6 ∧ pw m k = one := by
  obtain ⟨m1, m2, m3, m4⟩ := mat m n
  rw [h] at m1 m2 m3 m4
  simp only [one] at m1 m2 m3 m4
  generalize ht : m.a + m.d = t at *
  generalize hk : m.a * m.d - m.b * m.c = k at *
  by_cases hy : (sq t k n).2 = 0
  · rw [hy] at m1
    have kk : k.natAbs = 1 := by omega
    have tt : t.natAbs < 2 := by
      rcases Nat.lt_or_ge t.natAbs 2 with z | z
      · exact z
      · have := grow z kk n
        rw [hy] at this
        omega
    have t3 : t = -1 ∨ t = 0 ∨ t = 1 := by omega
    rcases ok with rfl | rfl
    · rcases t3 with rfl | rfl | rfl
      · exact ⟨2, by decide, p3 hk ht⟩
      · exact ⟨3, by decide, p4 hk ht⟩
      · exact ⟨5, by decide, p6 hk ht⟩
    · have nn : n = 6 ∨ n = 7 ∨ n = 8 ∨ n = 9 ∨ n = 10 ∨ n = 11 := by omega
      rcases t3 with rfl | rfl | rfl
      · rcases nn with rfl | rfl | rfl | rfl | rfl | rfl <;> exact absurd hy (by decide)
      · obtain ⟨u, v, e⟩ := p2 hk ht
        have e3 : pw m 3 = ⟨1, 0, 0, 1, u + u, v + v⟩ := by rw [pw_add m 1 1, e, sh_th]
        have e7 : pw m 7 = ⟨1, 0, 0, 1, u + u + (u + u), v + v + (v + v)⟩ := by rw [pw_add m 3 3, e3, sh_th]
        have e9 : pw m 9 = ⟨1, 0, 0, 1, u + u + (u + u) + u, v + v + (v + v) + v⟩ := by rw [pw_add m 7 1, e7, e, sh_th]
        have e11 : pw m 11 = ⟨1, 0, 0, 1, u + u + (u + u) + (u + u), v + v + (v + v) + (v + v)⟩ := by rw [pw_add m 7 3, e7, e3, sh_th]
        refine ⟨1, by decide, ?_⟩
        have uv : u = 0 ∧ v = 0 := by
          rcases nn with rfl | rfl | rfl | rfl | rfl | rfl
          · exact absurd hy (by decide)
          · rw [e7] at h; simp only [one, S6.mk.injEq] at h; omega
          · exact absurd hy (by decide)
          · rw [e9] at h; simp only [one, S6.mk.injEq] at h; omega
          · exact absurd hy (by decide)
          · rw [e11] at h; simp only [one, S6.mk.injEq] at h; omega
        rw [e, uv.1, uv.2]
        rfl
      · rcases nn with rfl | rfl | rfl | rfl | rfl | rfl <;> exact absurd hy (by decide)
  · obtain ⟨a, b, c, d, e, f⟩ := m
    simp only at *
    have b0 : b = 0 := by
      rcases Int.mul_eq_zero.mp m2.symm with z | z
      · exact absurd z hy
      · exact z
    have c0 : c = 0 := by
      rcases Int.mul_eq_zero.mp m3.symm with z | z
      · exact absurd z hy
      · exact z
    have ad : a = d := by
      have : (sq t k n).2 * a = (sq t k n).2 * d := by omega
      exact Int.eq_of_mul_eq_mul_left hy this
    subst b0 c0 ad
    have aa : a = 1 ∨ a = -1 := by
      have h1 : a * a = 1 ∨ a * a = -1 := by
        rcases ok with z | z <;> rw [z] at hk <;> simp at hk <;> omega
      have h2 : a.natAbs * a.natAbs = 1 := by
        rw [← Int.natAbs_mul]
        rcases h1 with z | z <;> rw [z] <;> rfl
      have := Nat.eq_one_of_mul_eq_one_left h2
      omega
    rcases aa with rfl | rfl
    · rw [pw_sh] at h
      simp only [one, S6.mk.injEq, true_and] at h
      refine ⟨0, by decide, ?_⟩
      have n0 : ((n : Int) + 1) ≠ 0 := by omega
      have e0 : e = 0 := (Int.mul_eq_zero.mp h.1).resolve_left n0
      have f0 : f = 0 := (Int.mul_eq_zero.mp h.2).resolve_left n0
      subst e0 f0
      rfl
    · refine ⟨1, by decide, ?_⟩
      simp only [pw, th, one, S6.mk.injEq]
      refine ⟨?_, ?_, ?_, ?_, ?_, ?_⟩ <;> omega
end GO
/-! The data layer: what a piece of text does to plain data, over the hand layer. -/
namespace DL
open PySem L2
/-! ### data -/
/-- plain data: what never changes; adr: an object that may change (its content stands in the store) -/
inductive D where
  | non | bl (b : Bool) | int (i : Int) | str (s : Str) | ty (n : String) | adr (a : Addr)
  | tup (l : List D) | lst (l : List D) | frl (l : List D) | ins (C : Addr) (ns : List Str) (l : List D) | dK (ks : List Key) (l : List D)
mutual
/-- v stands for d, in the heap W of what never changes -/
inductive Rep (K : PySem.W.Frag) (W : Hp) : V → D → Prop
  | non : Rep K W .non .non
  | bl (b : Bool) : Rep K W (.bl b) (.bl b)
  | int (i : Int) : Rep K W (.int i) (.int i)
  | str (s : Str) : Rep K W (.str s) (.str s)
  | ty (n : String) : Rep K W (.ty n) (.ty n)
  | adr (a : Addr) : Rep K W (.ref a) (.adr a)
  | tup {a : Addr} {xs : List V} {ds : List D} (h : SqT K W a xs) (r : Reps K W xs ds) : Rep K W (.ref a) (.tup ds)
  | lst {a : Addr} {xs : List V} {ds : List D} (h : W a = some (.lst xs)) (r : Reps K W xs ds) : Rep K W (.ref a) (.lst ds)
  | frl {a : Addr} {xs : List V} {ds : List D} (h : SqL K W a xs) (r : Reps K W xs ds) : Rep K W (.ref a) (.frl ds)
  | ins {a C dx : Addr} {ns : List Str} {xs : List V} {ds : List D} (h : W a = some (.ins C dx (ns.zip xs))) (hl : ns.length = xs.length) (r : Reps K W xs ds) : Rep K W (.ref a) (.ins C ns ds)
  | dK {a : Addr} {ks : List Key} {xs : List V} {ds : List D} (h : W a = some (.dK (ks.zip xs))) (hl : ks.length = xs.length) (r : Reps K W xs ds) : Rep K W (.ref a) (.dK ks ds)
inductive Reps (K : PySem.W.Frag) (W : Hp) : List V → List D → Prop
  | nil : Reps K W [] []
  | cons {x : V} {d : D} {xs : List V} {ds : List D} (h : Rep K W x d) (r : Reps K W xs ds) : Reps K W (x :: xs) (d :: ds)
end
theorem rd_same {H H' : Hp} {a : Addr} {u : HO} (e : Same H H') (h : Rd H a u) : Rd H' a u := by
  rcases h with h | ⟨o, h⟩
  · exact .inl (e _ _ h)
  · exact .inr ⟨o, e _ _ h⟩
theorem sqT_same {K : PySem.W.Frag} {H H' : Hp} {a : Addr} {xs : List V} (e : Same H H') (h : SqT K H a xs) : SqT K H' a xs := by
  rcases h with h | h
  · exact .inl (rd_same e h)
  · exact .inr h
theorem sqL_same {K : PySem.W.Frag} {H H' : Hp} {a : Addr} {xs : List V} (e : Same H H') (h : SqL K H a xs) : SqL K H' a xs := by
  rcases h with h | h
  · exact .inl (rd_same e h)
  · exact .inr h
section
variable {K : PySem.W.Frag} {W W' : Hp}
mutual
theorem Rep.mono (e : Same W W') : ∀ {v : V} {d : D}, Rep K W v d → Rep K W' v d
  | _, _, .non => .non
  | _, _, .bl b => .bl b
  | _, _, .int i => .int i
  | _, _, .str s => .str s
  | _, _, .ty n => .ty n
  | _, _, .adr a => .adr a
  | _, _, .tup h r => .tup (sqT_same e h) (Reps.mono e r)
  | _, _, .lst h r => .lst (e _ _ h) (Reps.mono e r)
  | _, _, .frl h r => .frl (sqL_same e h) (Reps.mono e r)
  | _, _, .ins h hl r => .ins (e _ _ h) hl (Reps.mono e r)
  | _, _, .dK h hl r => .dK (e _ _ h) hl (Reps.mono e r)
theorem Reps.mono (e : Same W W') : ∀ {vs : List V} {ds : List D}, Reps K W vs ds → Reps K W' vs ds
  | _, _, .nil => .nil
  | _, _, .cons h r => .cons (Rep.mono e h) (Reps.mono e r)
end
theorem Reps.length : ∀ {vs : List V} {ds : List D}, Reps K W vs ds → vs.length = ds.length
  | _, _, .nil => rfl
  | _, _, .cons h r => by rw [List.length_cons, List.length_cons, Reps.length r]
theorem Reps.get : ∀ {vs : List V} {ds : List D} {i : Nat} {d : D}, Reps K W vs ds → ds[i]? = some d → ∃ v, vs[i]? = some v ∧ Rep K W v d
  | _, _, _, _, .nil, e => by simp at e
  | _, _, 0, _, .cons h _, e => by simp at e; subst e; exact ⟨_, rfl, h⟩
  | _, _, i + 1, _, .cons _ r, e => by
    obtain ⟨v, h1, h2⟩ := Reps.get (i := i) r (by simpa using e)
    exact ⟨v, by simpa using h1, h2⟩
theorem Reps.getV : ∀ {vs : List V} {ds : List D} {i : Nat} {v : V}, Reps K W vs ds → vs[i]? = some v → ∃ d, ds[i]? = some d ∧ Rep K W v d
  | _, _, _, _, .nil, e => by simp at e
  | _, _, 0, _, .cons h _, e => by simp at e; subst e; exact ⟨_, rfl, h⟩
  | _, _, i + 1, _, .cons _ r, e => by
    obtain ⟨v, h1, h2⟩ := Reps.getV (i := i) r (by simpa using e)
    exact ⟨v, by simpa using h1, h2⟩
theorem Reps.append : ∀ {vs ws : List V} {ds es : List D}, Reps K W vs ds → Reps K W ws es → Reps K W (vs ++ ws) (ds ++ es)
  | _, _, _, _, .nil, s => s
  | _, _, _, _, .cons h r, s => .cons h (Reps.append r s)
theorem Reps.one {v : V} {d : D} (h : Rep K W v d) : Reps K W [v] [d] := .cons h .nil
theorem Reps.take : ∀ {vs : List V} {ds : List D} (n : Nat), Reps K W vs ds → Reps K W (vs.take n) (ds.take n)
  | _, _, 0, _ => by simp; exact .nil
  | _, _, _ + 1, .nil => .nil
  | _, _, n + 1, .cons h r => .cons h (Reps.take n r)
theorem Reps.drop : ∀ {vs : List V} {ds : List D} (n : Nat), Reps K W vs ds → Reps K W (vs.drop n) (ds.drop n)
  | _, _, 0, r => r
  | _, _, _ + 1, .nil => .nil
  | _, _, n + 1, .cons _ r => Reps.drop n r
theorem Reps.set {v : V} {d : D} (h : Rep K W v d) : ∀ {vs : List V} {ds : List D} (i : Nat), Reps K W vs ds → Reps K W (vs.set i v) (ds.set i d)
  | _, _, _, .nil => .nil
  | _, _, 0, .cons _ r => .cons h r
  | _, _, i + 1, .cons q r => .cons q (Reps.set h i r)
theorem Reps.reverse : ∀ {vs : List V} {ds : List D}, Reps K W vs ds → Reps K W vs.reverse ds.reverse
  | _, _, .nil => .nil
  | _, _, .cons h r => by
    rw [List.reverse_cons, List.reverse_cons]
    exact (Reps.reverse r).append (.one h)
theorem Reps.ints : ∀ (l : List Int), Reps K W (l.map V.int) (l.map D.int)
  | [] => .nil
  | i :: l => .cons (.int i) (Reps.ints l)
theorem Reps.split : ∀ {vs : List V} {d1 d2 : List D}, Reps K W vs (d1 ++ d2) → ∃ v1 v2, vs = v1 ++ v2 ∧ Reps K W v1 d1 ∧ Reps K W v2 d2
  | vs, [], d2, r => ⟨[], vs, rfl, .nil, r⟩
  | _, _ :: d1, d2, .cons h r => by
    obtain ⟨v1, v2, e, r1, r2⟩ := Reps.split (d1 := d1) r
    exact ⟨_ :: v1, v2, by rw [e]; rfl, .cons h r1, r2⟩
theorem Rep.int_inv {v : V} {i : Int} (h : Rep K W v (.int i)) : v = .int i := by cases h; rfl
theorem Rep.bl_inv {v : V} {b : Bool} (h : Rep K W v (.bl b)) : v = .bl b := by cases h; rfl
theorem Rep.str_inv {v : V} {s : Str} (h : Rep K W v (.str s)) : v = .str s := by cases h; rfl
theorem Rep.non_inv {v : V} (h : Rep K W v .non) : v = .non := by cases h; rfl
theorem Rep.adr_inv {v : V} {a : Addr} (h : Rep K W v (.adr a)) : v = .ref a := by cases h; rfl
theorem Rep.ty_inv {v : V} {n : String} (h : Rep K W v (.ty n)) : v = .ty n := by cases h; rfl
theorem Rep.tup_inv {v : V} {ds : List D} (h : Rep K W v (.tup ds)) : ∃ a xs, v = .ref a ∧ SqT K W a xs ∧ Reps K W xs ds := by cases h with | tup h r => exact ⟨_, _, rfl, h, r⟩
theorem Rep.lst_inv {v : V} {ds : List D} (h : Rep K W v (.lst ds)) : ∃ a xs, v = .ref a ∧ W a = some (.lst xs) ∧ Reps K W xs ds := by cases h with | lst h r => exact ⟨_, _, rfl, h, r⟩
theorem Rep.frl_inv {v : V} {ds : List D} (h : Rep K W v (.frl ds)) : ∃ a xs, v = .ref a ∧ SqL K W a xs ∧ Reps K W xs ds := by cases h with | frl h r => exact ⟨_, _, rfl, h, r⟩
theorem Rep.ins_inv {v : V} {C : Addr} {ns : List Str} {ds : List D} (h : Rep K W v (.ins C ns ds)) : ∃ a dx xs, v = .ref a ∧ W a = some (.ins C dx (ns.zip xs)) ∧ ns.length = xs.length ∧ Reps K W xs ds := by
  cases h with | ins h hl r => exact ⟨_, _, _, rfl, h, hl, r⟩
theorem Rep.dK_inv {v : V} {ks : List Key} {ds : List D} (h : Rep K W v (.dK ks ds)) : ∃ a xs, v = .ref a ∧ W a = some (.dK (ks.zip xs)) ∧ ks.length = xs.length ∧ Reps K W xs ds := by
  cases h with | dK h hl r => exact ⟨_, _, rfl, h, hl, r⟩
end
/-! ### the store: what may change -/
inductive MO where
  | lst (l : List D) | ins (C : Addr) (ns : List Str) (l : List D) | dK (ks : List Key) (l : List D)
inductive MRep (K : PySem.W.Frag) (W : Hp) : HO → MO → Prop
  | lst {xs : List V} {ds : List D} (r : Reps K W xs ds) : MRep K W (.lst xs) (.lst ds)
  | ins {C dx : Addr} {ns : List Str} {xs : List V} {ds : List D} (hl : ns.length = xs.length) (r : Reps K W xs ds) : MRep K W (.ins C dx (ns.zip xs)) (.ins C ns ds)
  | dK {ks : List Key} {xs : List V} {ds : List D} (hl : ks.length = xs.length) (r : Reps K W xs ds) : MRep K W (.dK (ks.zip xs)) (.dK ks ds)
theorem MRep.mono {K : PySem.W.Frag} {W W' : Hp} (e : Same W W') {h : HO} {o : MO} (r : MRep K W h o) : MRep K W' h o := by
  cases r with
  | lst r => exact .lst (r.mono e)
  | ins hl r => exact .ins hl (r.mono e)
  | dK hl r => exact .dK hl (r.mono e)
abbrev Mem := Addr → Option MO
def Mem.set (M : Mem) (a : Addr) (o : MO) : Mem := fun b => if b = a then some o else M b
def Mem.del (M : Mem) (a : Addr) : Mem := fun b => if b = a then none else M b
theorem Mem.set_same {M : Mem} {a : Addr} {o : MO} : M.set a o a = some o := if_pos rfl
theorem Mem.set_ne {M : Mem} {a b : Addr} {o : MO} (h : b ≠ a) : M.set a o b = M b := if_neg h
theorem Mem.del_same {M : Mem} {a : Addr} : M.del a a = none := if_pos rfl
theorem Mem.del_ne {M : Mem} {a b : Addr} (h : b ≠ a) : M.del a b = M b := if_neg h
theorem Mem.set_set {M : Mem} {a : Addr} {o u : MO} : (M.set a o).set a u = M.set a u := by
  funext b
  unfold Mem.set
  split <;> rfl
theorem Mem.del_set {M : Mem} {a : Addr} {o : MO} (h : M a = none) : (M.set a o).del a = M := by
  funext b
  by_cases e : b = a
  · rw [e, Mem.del_same, h]
  · rw [Mem.del_ne e, Mem.set_ne e]
/-! ### what a piece of code leaves as it was -/
structure Fr (W : Hp) (M : Mem) (H : Hp) (W' : Hp) (M' : Mem) (H' : Hp) : Prop where
  w : Same W W'
  nw : ∀ a, W' a ≠ none → W a ≠ none ∨ H a = none
  nm : ∀ a, M' a ≠ none → M a ≠ none ∨ H a = none
  un : ∀ a o, H a = some o → M a = none → H' a = some o
  th : ∀ a, H a ≠ none → H' a ≠ none
section
variable {W W1 W2 : Hp} {M M1 M2 : Mem} {H H1 H2 : Hp}
theorem Fr.refl : Fr W M H W M H := ⟨Same.refl W, fun _ h => .inl h, fun _ h => .inl h, fun _ _ e _ => e, fun _ h => h⟩
theorem Fr.back (f : Fr W M H W1 M1 H1) {a : Addr} (h : H1 a = none) : H a = none := by
  cases e : H a with
  | none => rfl
  | some o => exact absurd h (f.th a (by rw [e]; exact fun z => nomatch z))
theorem Fr.mnone (f : Fr W M H W1 M1 H1) {a : Addr} {o : HO} (e : H a = some o) (h : M a = none) : M1 a = none := by
  cases q : M1 a with
  | none => rfl
  | some u =>
    rcases f.nm a (by rw [q]; exact fun z => nomatch z) with z | z
    · exact absurd h z
    · rw [e] at z; cases z
theorem Fr.trans (f : Fr W M H W1 M1 H1) (g : Fr W1 M1 H1 W2 M2 H2) : Fr W M H W2 M2 H2 where
  w := f.w.trans g.w
  nw := fun a h => by
    rcases g.nw a h with z | z
    · exact f.nw a z
    · exact .inr (f.back z)
  nm := fun a h => by
    rcases g.nm a h with z | z
    · exact f.nm a z
    · exact .inr (f.back z)
  un := fun a o e h => g.un a o (f.un a o e h) (f.mnone e h)
  th := fun a h => g.th a (f.th a h)
end
/-- the entry of a def's call -/
structure Ent where
  W : Hp
  M : Mem
  H : Hp
abbrev Dl := List (Option D)
/-- the state: the names' data δ, the store M, over W -/
structure At (K : PySem.W.Frag) (Z : Ent) (δ : Dl) (M : Mem) (W : Hp) (σ : St) (H : Hp) : Prop where
  fr : Fr Z.W Z.M Z.H W M H
  same : Same W H
  env : ∀ (i : Nat) (d : D), δ[i]? = some (some d) → ∃ v, σ[i]? = some (some v) ∧ Rep K W v d
  len : δ.length = σ.length
  cel : ∀ a o, M a = some o → W a = none ∧ ∃ ho, H a = some ho ∧ MRep K W ho o
/-- the pure part of a step: new things only -/
structure Step (W H W' H' : Hp) : Prop where
  w : Same W W'
  h : Same H H'
  wh : Same W' H'
  nw : ∀ a, W' a ≠ none → W a ≠ none ∨ H a = none
theorem Step.refl {W H : Hp} (h : Same W H) : Step W H W H := ⟨Same.refl _, Same.refl _, h, fun _ h => .inl h⟩
theorem Step.new {W H : Hp} (h : Same W H) {p : Addr} {o : HO} (hp : H p = none) : Step W H (upd W p o) (upd H p o) where
  w := fun b u e => by
    have : b ≠ p := fun z => by rw [z, h.free hp] at e; cases e
    rw [upd_ne this]; exact e
  h := fun b u e => by
    have : b ≠ p := fun z => by rw [z, hp] at e; cases e
    rw [upd_ne this]; exact e
  wh := fun b u e => by
    by_cases q : b = p
    · rw [q, upd_same] at e ⊢; exact e
    · rw [upd_ne q] at e ⊢; exact h _ _ e
  nw := fun a ha => by
    by_cases q : a = p
    · exact .inr (q ▸ hp)
    · rw [upd_ne q] at ha; exact .inl ha
theorem Same.th {H H' : Hp} (e : Same H H') {a : Addr} (h : H a ≠ none) : H' a ≠ none := by
  cases q : H a with
  | none => exact absurd q h
  | some o => rw [e _ _ q]; exact fun z => nomatch z
theorem Step.trans {W H W1 H1 W2 H2 : Hp} (a : Step W H W1 H1) (b : Step W1 H1 W2 H2) : Step W H W2 H2 where
  w := a.w.trans b.w
  h := a.h.trans b.h
  wh := b.wh
  nw := fun x hx => by
    rcases b.nw x hx with z | z
    · exact a.nw x z
    · exact .inr (a.h.free z)
section
variable {K : PySem.W.Frag} {Z : Ent} {δ : Dl} {M : Mem} {W W' : Hp} {σ : St} {H H' : Hp}
theorem Step.fr (s : Step W H W' H') : Fr W M H W' M H' := ⟨s.w, s.nw, fun _ h => .inl h, fun a o e _ => s.h a o e, fun _ h => Same.th s.h h⟩
theorem At.step (a : At K Z δ M W σ H) (s : Step W H W' H') : At K Z δ M W' σ H' where
  fr := a.fr.trans s.fr
  same := s.wh
  env := fun i d e => let ⟨v, h1, h2⟩ := a.env i d e; ⟨v, h1, h2.mono s.w⟩
  len := a.len
  cel := fun p o e => by
    obtain ⟨h1, ho, h2, h3⟩ := a.cel p o e
    refine ⟨?_, ho, s.h _ _ h2, h3.mono s.w⟩
    cases q : W' p with
    | none => rfl
    | some u =>
      rcases s.nw p (by rw [q]; exact fun z => nomatch z) with z | z
      · exact absurd h1 z
      · rw [h2] at z; cases z
theorem At.setσ (a : At K Z δ M W σ H) {i : Nat} {v : V} {d : D} (r : Rep K W v d) : At K Z (δ.set i (some d)) M W (σ.set i (some v)) H where
  fr := a.fr
  same := a.same
  env := fun j e hj => by
    by_cases q : j = i
    · subst q
      by_cases l : j < δ.length
      · rw [List.getElem?_set_self l] at hj
        cases hj
        exact ⟨v, List.getElem?_set_self (by rw [← a.len]; exact l), r⟩
      · rw [List.getElem?_eq_none (by rw [List.length_set]; omega)] at hj
        cases hj
    · rw [List.getElem?_set_ne (Ne.symm q)] at hj
      obtain ⟨w, h1, h2⟩ := a.env j e hj
      exact ⟨w, by rw [List.getElem?_set_ne (Ne.symm q)]; exact h1, h2⟩
  len := by rw [List.length_set, List.length_set]; exact a.len
  cel := a.cel
/-- forgetting names -/
theorem At.weak (a : At K Z δ M W σ H) {δ' : Dl} (hl : δ'.length = δ.length) (h : ∀ (i : Nat) (d : D), δ'[i]? = some (some d) → δ[i]? = some (some d)) : At K Z δ' M W σ H :=
  ⟨a.fr, a.same, fun i d e => a.env i d (h i d e), hl.trans a.len, a.cel⟩
/-- a cell of the store is written -/
theorem At.write (a : At K Z δ M W σ H) {p : Addr} {o o' : MO} {ho' : HO} (hp : M p = some o) (r : MRep K W ho' o') : At K Z δ (M.set p o') W σ (upd H p ho') where
  fr := by
    obtain ⟨h1, ho, h2, h3⟩ := a.cel p o hp
    refine a.fr.trans ⟨Same.refl _, fun _ h => .inl h, fun x hx => ?_, fun x u e hx => ?_, fun x hx => ?_⟩
    · by_cases q : x = p
      · exact .inl (by rw [q, hp]; exact fun z => nomatch z)
      · rw [Mem.set_ne q] at hx; exact .inl hx
    · have : x ≠ p := fun z => by rw [z, hp] at hx; cases hx
      rw [upd_ne this]; exact e
    · by_cases q : x = p
      · rw [q, upd_same]; exact fun z => nomatch z
      · rw [upd_ne q]; exact hx
  same := fun b u e => by
    obtain ⟨h1, _⟩ := a.cel p o hp
    have : b ≠ p := fun z => by rw [z, h1] at e; cases e
    rw [upd_ne this]; exact a.same _ _ e
  env := a.env
  len := a.len
  cel := fun x u e => by
    by_cases q : x = p
    · subst q
      rw [Mem.set_same] at e
      cases e
      exact ⟨(a.cel x o hp).1, ho', upd_same, r⟩
    · rw [Mem.set_ne q] at e
      obtain ⟨h1, ho, h2, h3⟩ := a.cel x u e
      exact ⟨h1, ho, by rw [upd_ne q]; exact h2, h3⟩
/-- a new cell of the store -/
theorem At.alloc (a : At K Z δ M W σ H) {p : Addr} {o : MO} {ho : HO} (hp : H p = none) (r : MRep K W ho o) : At K Z δ (M.set p o) W σ (upd H p ho) where
  fr := by
    refine a.fr.trans ⟨Same.refl _, fun _ h => .inl h, fun x hx => ?_, fun x u e hx => ?_, fun x hx => ?_⟩
    · by_cases q : x = p
      · exact .inr (q ▸ hp)
      · rw [Mem.set_ne q] at hx; exact .inl hx
    · have : x ≠ p := fun z => by rw [z, hp] at e; cases e
      rw [upd_ne this]; exact e
    · by_cases q : x = p
      · rw [q, upd_same]; exact fun z => nomatch z
      · rw [upd_ne q]; exact hx
  same := fun b u e => by
    have : b ≠ p := fun z => by rw [z, a.same.free hp] at e; cases e
    rw [upd_ne this]; exact a.same _ _ e
  env := a.env
  len := a.len
  cel := fun x u e => by
    by_cases q : x = p
    · subst q
      rw [Mem.set_same] at e
      cases e
      exact ⟨a.same.free hp, ho, upd_same, r⟩
    · rw [Mem.set_ne q] at e
      obtain ⟨h1, ho, h2, h3⟩ := a.cel x u e
      exact ⟨h1, ho, by rw [upd_ne q]; exact h2, h3⟩
theorem At.mfresh (a : At K Z δ M W σ H) {p : Addr} (hp : H p = none) : M p = none := by
  cases q : M p with
  | none => rfl
  | some o =>
    obtain ⟨_, ho, h2, _⟩ := a.cel p o q
    rw [hp] at h2; cases h2
/-- a cell of the store that was made behind the entry changes no more -/
theorem At.freeze (a : At K Z δ M W σ H) {p : Addr} {o : MO} {ho : HO} (hp : M p = some o) (hz : Z.H p = none) (e : H p = some ho) : At K Z δ (M.del p) (upd W p ho) σ H ∧ Same W (upd W p ho) := by
  obtain ⟨h1, _, _, _⟩ := a.cel p o hp
  have sw : Same W (upd W p ho) := fun b u q => by
    have : b ≠ p := fun z => by rw [z, h1] at q; cases q
    rw [upd_ne this]; exact q
  refine ⟨⟨⟨a.fr.w.trans sw, fun x hx => ?_, fun x hx => ?_, a.fr.un, a.fr.th⟩, fun b u q => ?_, fun i d q => let ⟨v, q1, q2⟩ := a.env i d q; ⟨v, q1, q2.mono sw⟩, a.len, fun x u q => ?_⟩, sw⟩
  · by_cases q : x = p
    · exact .inr (q ▸ hz)
    · rw [upd_ne q] at hx; exact a.fr.nw x hx
  · by_cases q : x = p
    · exact .inr (q ▸ hz)
    · rw [Mem.del_ne q] at hx; exact a.fr.nm x hx
  · by_cases z : b = p
    · rw [z, upd_same] at q; rw [z, e]; exact q
    · rw [upd_ne z] at q; exact a.same _ _ q
  · by_cases z : x = p
    · rw [z, Mem.del_same] at q; cases q
    · rw [Mem.del_ne z] at q
      obtain ⟨q1, ho2, q2, q3⟩ := a.cel x u q
      exact ⟨by rw [upd_ne z]; exact q1, ho2, q2, q3.mono sw⟩
end
end DL
namespace DL
open PySem L2
/-! ### the weakest readings -/
structure wE (X : Cx) (e : Expr) (σ : St) (H : Hp) (Q : VK) : Prop where
  run : ∀ (pins : List (Addr × Obj)) (s : Shared), Inv X pins σ H s → wpAny (model X.prog X.w) X.A (eval e X.env) (EP X pins σ Q) X.xe s
structure wT (X : Cx) (e : Expr) (σ : St) (H : Hp) (Q : Bool → Hp → Prop) : Prop where
  run : ∀ (pins : List (Addr × Obj)) (s : Shared), Inv X pins σ H s → wpAny (model X.prog X.w) X.A (isTrue e X.env (eval e X.env)) (TP X pins σ Q) X.xe s
structure wW (X : Cx) (e : Expr) (σ : St) (H : Hp) (Q : Bool → Hp → Prop) : Prop where
  run : ∀ (whole : Sem Value) (pins : List (Addr × Obj)) (s : Shared), Inv X pins σ H s → wpAny (model X.prog X.w) X.A (isTrue e X.env whole) (TP X pins σ Q) X.xe s
structure wA (X : Cx) (es : List Expr) (σ : St) (H : Hp) (Q : List V → Hp → Prop) : Prop where
  run : ∀ (pos : Pos) (pins : List (Addr × Obj)) (s : Shared), Inv X pins σ H s → wpAny (model X.prog X.w) X.A (spliced (backTo pos (starEach es X.env))) (AP X pins σ Q) X.xe s
structure wS (X : Cx) (st : Stmt) (D : Ends) (σ : St) (H : Hp) : Prop where
  run : ∀ (pins : List (Addr × Obj)) (s : Shared), Inv X pins σ H s → wpAny (model X.prog X.w) X.A (exec st X.env) (SP X pins D) X.xe s
structure wSs (X : Cx) (st : List Stmt) (D : Ends) (σ : St) (H : Hp) : Prop where
  run : ∀ (pins : List (Addr × Obj)) (s : Shared), Inv X pins σ H s → wpAny (model X.prog X.w) X.A (execs st X.env) (SP X pins D) X.xe s
section
variable {X : Cx} {e : Expr} {es : List Expr} {st : Stmt} {sts : List Stmt}
theorem pe_w : PE X e (wE X e) := ⟨fun pins s _ _ _ I h => h.run pins s I⟩
theorem pt_w : PT X e (wT X e) := ⟨fun pins s _ _ _ I h => h.run pins s I⟩
theorem pw_w : PW X e (wW X e) := ⟨fun w pins s _ _ _ I h => h.run w pins s I⟩
theorem pa_w : PA X es (wA X es) := ⟨fun pos pins s _ _ _ I h => h.run pos pins s I⟩
theorem ps_w : PS X st (wS X st) := ⟨fun pins s _ _ _ I h => h.run pins s I⟩
theorem pss_w : PSs X sts (wSs X sts) := ⟨fun pins s _ _ _ I h => h.run pins s I⟩
theorem of_pe {t : TE} {σ : St} {H : Hp} {Q : VK} (h : PE X e t) (q : t σ H Q) : wE X e σ H Q := ⟨fun pins s I => h.run pins s σ H Q I q⟩
theorem of_pt {t : TT} {σ : St} {H : Hp} {Q : Bool → Hp → Prop} (h : PT X e t) (q : t σ H Q) : wT X e σ H Q := ⟨fun pins s I => h.run pins s σ H Q I q⟩
theorem of_pw {t : TT} {σ : St} {H : Hp} {Q : Bool → Hp → Prop} (h : PW X e t) (q : t σ H Q) : wW X e σ H Q := ⟨fun w pins s I => h.run w pins s σ H Q I q⟩
theorem of_pa {t : TA} {σ : St} {H : Hp} {Q : List V → Hp → Prop} (h : PA X es t) (q : t σ H Q) : wA X es σ H Q := ⟨fun pos pins s I => h.run pos pins s σ H Q I q⟩
theorem of_ps {t : TS} {σ : St} {H : Hp} {D : Ends} (h : PS X st t) (q : t D σ H) : wS X st D σ H := ⟨fun pins s I => h.run pins s σ H D I q⟩
theorem of_pss {t : TS} {σ : St} {H : Hp} {D : Ends} (h : PSs X sts t) (q : t D σ H) : wSs X sts D σ H := ⟨fun pins s I => h.run pins s σ H D I q⟩
end
/-! ### the judgements over data -/
abbrev DK := D → Mem → Prop
/-- what is wanted behind a block -/
structure DEnds where
  nx : Dl → Mem → Prop
  rt : DK
  bk : Dl → Mem → Prop := fun _ _ => False
  ct : Dl → Mem → Prop := fun _ _ => False
def DE (X : Cx) (Z : Ent) (e : Expr) (δ : Dl) (M : Mem) (post : DK) : Prop :=
  ∀ W σ H, At X.K Z δ M W σ H → ∀ Q : VK, (∀ v d M' W' H', At X.K Z δ M' W' σ H' → Same W W' → Rep X.K W' v d → post d M' → Q v H') → wE X e σ H Q
def DT (X : Cx) (Z : Ent) (e : Expr) (δ : Dl) (M : Mem) (post : Bool → Mem → Prop) : Prop :=
  ∀ W σ H, At X.K Z δ M W σ H → ∀ Q : Bool → Hp → Prop, (∀ b M' W' H', At X.K Z δ M' W' σ H' → Same W W' → post b M' → Q b H') → wT X e σ H Q
def DW (X : Cx) (Z : Ent) (e : Expr) (δ : Dl) (M : Mem) (post : Bool → Mem → Prop) : Prop :=
  ∀ W σ H, At X.K Z δ M W σ H → ∀ Q : Bool → Hp → Prop, (∀ b M' W' H', At X.K Z δ M' W' σ H' → Same W W' → post b M' → Q b H') → wW X e σ H Q
def DA (X : Cx) (Z : Ent) (es : List Expr) (δ : Dl) (M : Mem) (post : List D → Mem → Prop) : Prop :=
  ∀ W σ H, At X.K Z δ M W σ H → ∀ Q : List V → Hp → Prop, (∀ vs ds M' W' H', At X.K Z δ M' W' σ H' → Same W W' → Reps X.K W' vs ds → post ds M' → Q vs H') → wA X es σ H Q
/-- the wanted ends, told of data, are what is wanted -/
structure Fits (K : PySem.W.Frag) (Z : Ent) (W : Hp) (P : DEnds) (Dn : Ends) : Prop where
  nx : ∀ δ M W' σ H, At K Z δ M W' σ H → Same W W' → P.nx δ M → Dn.nx σ H
  rt : ∀ v d δ M W' σ H, At K Z δ M W' σ H → Same W W' → Rep K W' v d → P.rt d M → Dn.rt v H
  bk : ∀ δ M W' σ H, At K Z δ M W' σ H → Same W W' → P.bk δ M → Dn.bk σ H
  ct : ∀ δ M W' σ H, At K Z δ M W' σ H → Same W W' → P.ct δ M → Dn.ct σ H
def DS1 (X : Cx) (Z : Ent) (st : Stmt) (δ : Dl) (M : Mem) (P : DEnds) : Prop :=
  ∀ W σ H, At X.K Z δ M W σ H → ∀ Dn : Ends, Fits X.K Z W P Dn → wS X st Dn σ H
def DS (X : Cx) (Z : Ent) (sts : List Stmt) (δ : Dl) (M : Mem) (P : DEnds) : Prop :=
  ∀ W σ H, At X.K Z δ M W σ H → ∀ Dn : Ends, Fits X.K Z W P Dn → wSs X sts Dn σ H
theorem Fits.mono {K : PySem.W.Frag} {Z : Ent} {W W' : Hp} {P : DEnds} {Dn : Ends} (f : Fits K Z W P Dn) (e : Same W W') : Fits K Z W' P Dn :=
  ⟨fun δ M W1 σ H a s q => f.nx δ M W1 σ H a (e.trans s) q, fun v d δ M W1 σ H a s r q => f.rt v d δ M W1 σ H a (e.trans s) r q, fun δ M W1 σ H a s q => f.bk δ M W1 σ H a (e.trans s) q, fun δ M W1 σ H a s q => f.ct δ M W1 σ H a (e.trans s) q⟩
def MOk (K : PySem.W.Frag) (M : Mem) (W H : Hp) : Prop := ∀ a o, M a = some o → W a = none ∧ ∃ ho, H a = some ho ∧ MRep K W ho o
/-- operations by data: new things only -/
def RO (K : PySem.W.Frag) (M : Mem) (r : R2) (x y z : D) : Prop :=
  ∀ W H v u (Q : VK), Same W H → MOk K M W H → Rep K W v x → Rep K W u y → (∀ w W' H', Step W H W' H' → Rep K W' w z → Q w H') → r v u H Q
def RU (K : PySem.W.Frag) (M : Mem) (r : V → Hp → VK → Prop) (x z : D) : Prop :=
  ∀ W H v (Q : VK), Same W H → MOk K M W H → Rep K W v x → (∀ w W' H', Step W H W' H' → Rep K W' w z → Q w H') → r v H Q
def RC (K : PySem.W.Frag) (M : Mem) (r : List V → Hp → VK → Prop) (xs : List D) (z : D) : Prop :=
  ∀ W H vs (Q : VK), Same W H → MOk K M W H → Reps K W vs xs → (∀ w W' H', Step W H W' H' → Rep K W' w z → Q w H') → r vs H Q
section
variable {X : Cx} {Z : Ent} {e a b c : Expr} {es : List Expr} {δ : Dl} {M : Mem} {post : DK} {pos : Pos}
theorem DE.imp {post' : DK} (h : DE X Z e δ M post) (k : ∀ d M', post d M' → post' d M') : DE X Z e δ M post' := fun W σ H A Q q => h W σ H A Q fun v d M' W' H' A' s r p => q v d M' W' H' A' s r (k _ _ p)
theorem DT.imp {p p' : Bool → Mem → Prop} (h : DT X Z e δ M p) (k : ∀ d M', p d M' → p' d M') : DT X Z e δ M p' := fun W σ H A Q q => h W σ H A Q fun b M' W' H' A' s r => q b M' W' H' A' s (k _ _ r)
theorem DW.dt {p : Bool → Mem → Prop} (h : DW X Z e δ M p) : DT X Z e δ M p := fun W σ H A Q q => of_pt pw_w.pt (h W σ H A Q q)
/-- a value that is there already -/
theorem At.ret {K : PySem.W.Frag} {W : Hp} {σ : St} {H : Hp} {Q : VK} {v : V} {d : D} (A : At K Z δ M W σ H) (k : ∀ v d M' W' H', At K Z δ M' W' σ H' → Same W W' → Rep K W' v d → post d M' → Q v H') (r : Rep K W v d) (p : post d M) : Q v H := k v d M W H A (Same.refl _) r p
/-! ### names, constants -/
/-- the datum at slot i -/
def gd (δ : Dl) (i : Nat) : D := match δ[i]? with
  | some (some d) => d
  | _ => .non
theorem de_name (i : Nat) {x : Str} (p : post (gd δ i) M) (hd : δ[i]? = some (some (gd δ i)) := by rfl) (hN : X.N[i]? = some x := by rfl) (hv : Vis X.env.scope x := by first | exact Or.inl rfl | exact Or.inr (Or.inl rfl) | exact Or.inr (Or.inr rfl)) (h1 : (x == ("__debug__" : Str)) = false := by decide)
    (h2 : (x == ("__classdict__" : Str)) = false := by decide) : DE X Z (.Name x pos) δ M post := fun W σ H A Q k => by
  obtain ⟨v, hσ, r⟩ := A.env i _ hd
  exact of_pe (pe_var hN hv h1 h2) ⟨v, hσ, A.ret k r p⟩
theorem de_int {i : Int} {j : Nat} (p : post (.int i) M) : DE X Z (.Constant (.int i) j pos) δ M post := fun W σ H A Q k => of_pe pe_int (A.ret k (.int i) p)
theorem de_bl {i : Bool} {j : Nat} (p : post (.bl i) M) : DE X Z (.Constant (.bool i) j pos) δ M post := fun W σ H A Q k => of_pe pe_bl (A.ret k (.bl i) p)
theorem de_non {j : Nat} (p : post .non M) : DE X Z (.Constant .none j pos) δ M post := fun W σ H A Q k => of_pe pe_non (A.ret k .non p)
theorem de_str {x : Str} {j : Nat} (p : post (.str x) M) : DE X Z (.Constant (.str x) j pos) δ M post := fun W σ H A Q k => of_pe pe_str (A.ret k (.str x) p)
/-- a class, a def of the module as a value -/
theorem de_glob {x : Str} {f : Addr} (hm : X.mg x = some (.ref f)) (p : post (.adr f) M) (hg : Gl X x := by rfl) (hd : (x == ("__debug__" : Str)) = false := by decide) : DE X Z (.Name x pos) δ M post :=
  fun W σ H A Q k => of_pe (pe_glob (v := .ref f) hg hm (show RelV (.ref f) (Value.ref f) from rfl) hd) (A.ret (v := .ref f) k (.adr f) p)
theorem de_globI {x : Str} {i : Int} {t : Tok} (hm : X.mg x = some (.int i t)) (p : post (.int i) M) (hg : Gl X x := by rfl) (hd : (x == ("__debug__" : Str)) = false := by decide) : DE X Z (.Name x pos) δ M post :=
  fun W σ H A Q k => of_pe (pe_glob (v := .int i) hg hm (show RelV (.int i) (Value.int i t) from ⟨_, rfl⟩) hd) (A.ret (v := .int i) k (.int i) p)
/-- a built-in class as a value -/
theorem de_type {x : Str} {n : String} (hm : X.mg x = none) (p : post (.ty n) M) (hg : Gl X x := by rfl) (hv : bootBuiltins x = some (.type n) := by decide +kernel) (hn : x ≠ "__name__" := by decide) (hd : (x == ("__debug__" : Str)) = false := by decide) : DE X Z (.Name x pos) δ M post :=
  fun W σ H A Q k => of_pe (pe_bltn hg hm hv (show RelV (.ty n) _ from rfl) hn hd) (A.ret (v := .ty n) k (.ty n) p)
/-! ### operators -/
theorem de_op {op : Operator} {r : R2} (ho : OpR X (binaryOp op) r) (h : DE X Z a δ M fun x M1 => DE X Z b δ M1 fun y M2 => ∃ z, RO X.K M2 r x y z ∧ post z M2) : DE X Z (.BinOp a op b pos) δ M post :=
  fun W σ H A Q k => of_pe (pe_op ho pe_w pe_w) (h W σ H A _ fun v x M1 W1 H1 A1 s1 r1 h1 => h1 W1 σ H1 A1 _ fun u y M2 W2 H2 A2 s2 r2 ⟨z, hz, hp⟩ =>
    hz W2 H2 v u _ A2.same A2.cel (r1.mono s2) r2 fun w W3 H3 st rz => k w z M2 W3 H3 (A2.step st) (s1.trans (s2.trans st.w)) rz hp)
theorem de_un {op : UnaryOp} {r : V → Hp → VK → Prop} (ho : UnR X (unaryOp op) r) (h : DE X Z a δ M fun x M1 => ∃ z, RU X.K M1 r x z ∧ post z M1) : DE X Z (.UnaryOp op a pos) δ M post :=
  fun W σ H A Q k => of_pe (pe_un ho pe_w) (h W σ H A _ fun v x M1 W1 H1 A1 s1 r1 ⟨z, hz, hp⟩ => hz W1 H1 v _ A1.same A1.cel r1 fun w W3 H3 st rz => k w z M1 W3 H3 (A1.step st) (s1.trans st.w) rz hp)
theorem de_cmp {op : CmpOp} {r : R2} (ho : OpR X (compareOp op) r) (hm : behindInMarks op b = false) (h : DE X Z a δ M fun x M1 => DE X Z b δ M1 fun y M2 => ∃ z, RO X.K M2 r x y z ∧ post z M2) : DE X Z (.Compare a [op] [b] pos) δ M post :=
  fun W σ H A Q k => of_pe (pe_cmpR ho pe_w pe_w hm) (h W σ H A _ fun v x M1 W1 H1 A1 s1 r1 h1 => h1 W1 σ H1 A1 _ fun u y M2 W2 H2 A2 s2 r2 ⟨z, hz, hp⟩ =>
    hz W2 H2 v u _ A2.same A2.cel (r1.mono s2) r2 fun w W3 H3 st rz => k w z M2 W3 H3 (A2.step st) (s1.trans (s2.trans st.w)) rz hp)
theorem dt_cmp {p : Bool → Mem → Prop} {op : CmpOp} {r : R2} (ho : OpR X (compareOp op) r) (hm : behindInMarks op b = false) (h : DE X Z a δ M fun x M1 => DE X Z b δ M1 fun y M2 => ∃ c, RO X.K M2 r x y (.bl c) ∧ p c M2) : DT X Z (.Compare a [op] [b] pos) δ M p :=
  fun W σ H A Q k => of_pt (pt_cmpR ho pe_w pe_w hm) (h W σ H A _ fun v x M1 W1 H1 A1 s1 r1 h1 => h1 W1 σ H1 A1 _ fun u y M2 W2 H2 A2 s2 r2 ⟨z, hz, hp⟩ =>
    hz W2 H2 v u _ A2.same A2.cel (r1.mono s2) r2 fun w W3 H3 st rz => ⟨z, rz.bl_inv, k z M2 W3 H3 (A2.step st) (s1.trans (s2.trans st.w)) hp⟩)
/-- a < b < c -/
theorem dt_chain {p : Bool → Mem → Prop} {op op' : CmpOp} {r r' : R2} (ho : OpR X (compareOp op) r) (ho' : OpR X (compareOp op') r') (h : DE X Z a δ M fun x M1 => DE X Z b δ M1 fun y M2 => ∃ c0, RO X.K M2 r x y (.bl c0) ∧
      if c0 = true then DE X Z c δ M2 fun z M3 => ∃ c1, RO X.K M3 r' y z (.bl c1) ∧ p c1 M3 else p false M2) (hl : lastMarks [op, op'] [b, c] = false := by rfl) : DT X Z (.Compare a [op, op'] [b, c] pos) δ M p := fun W σ H A Q k => by
  refine of_pt (pt_chain ho ho' pe_w pe_w pe_w hl) ?_
  refine h W σ H A _ fun v x M1 W1 H1 A1 s1 r1 h1 => h1 W1 σ H1 A1 _ fun u y M2 W2 H2 A2 s2 r2 ⟨z, hz, hp⟩ => hz W2 H2 v u _ A2.same A2.cel (r1.mono s2) r2 fun w W3 H3 st rz => ⟨z, rz.bl_inv, ?_⟩
  cases z with
  | true => 
    rw [if_pos rfl] at hp ⊢
    exact hp W3 σ H3 (A2.step st) _ fun t zz M3 W4 H4 A4 s4 r4 ⟨c1, hc, hq⟩ => hc W4 H4 u t _ A4.same A4.cel (r2.mono (st.w.trans s4)) r4 fun w' W5 H5 st' rz' => ⟨c1, rz'.bl_inv, k c1 M3 W5 H5 (A4.step st') (s1.trans (s2.trans (st.w.trans (s4.trans st'.w)))) hq⟩
  | false =>
    rw [if_neg Bool.false_ne_true] at hp ⊢
    exact ⟨false, rfl, k false M2 W3 H3 (A2.step st) (s1.trans (s2.trans st.w)) hp⟩
theorem dt_of {p : Bool → Mem → Prop} (h : DE X Z e δ M fun x M1 => ∃ c, x = .bl c ∧ p c M1) (he : ∀ whole, isTrue e X.env whole = (do let v ← whole; standAt e.pos; holding [v] (truthy v)) := by intro _; rfl) : DT X Z e δ M p :=
  fun W σ H A Q k => of_pt (pt_val pe_w he) (h W σ H A _ fun v x M1 W1 H1 A1 s1 r1 ⟨c, ec, hp⟩ => by subst ec; exact ⟨c, r1.bl_inv, k c M1 W1 H1 A1 s1 hp⟩)
/-- an expression's truth: an int, a list, a tuple, a text .. -/
def Tru (M : Mem) : D → Bool → Prop
  | .non, k => k = false
  | .bl b, k => k = b
  | .int i, k => k = (i != 0)
  | .str y, k => y.length ≤ sizeLine ∧ k = ((y.length : Int) != 0)
  | .tup l, k => k = !l.isEmpty
  | .lst l, k => k = !l.isEmpty
  | .adr a, k => ∃ l, M a = some (.lst l) ∧ k = !l.isEmpty
  | _, _ => False
theorem Reps.isEmpty {K : PySem.W.Frag} {W : Hp} {xs : List V} {ds : List D} (r : Reps K W xs ds) : xs.isEmpty = ds.isEmpty := by cases r <;> rfl
theorem tru_of {K : PySem.W.Frag} {W H : Hp} {v : V} {d : D} {k : Bool} (e : Same W H) (mo : MOk K M W H) (r : Rep K W v d) (t : Tru M d k) : TruV K v H k := by
  cases r with
  | non => exact t
  | bl b => exact t
  | int i => exact t
  | str s => exact t
  | adr a =>
    obtain ⟨l, hl, ek⟩ := (show ∃ l, M a = some (.lst l) ∧ k = !l.isEmpty from t)
    obtain ⟨_, ho, h1, h2⟩ := mo a _ hl
    cases h2 with
    | lst r => exact .inl ⟨_, SqL.of h1, by rw [ek, r.isEmpty]⟩
  | tup h r => exact .inr (.inl ⟨_, sqT_same e h, by rw [r.isEmpty]; exact t⟩)
  | lst h r => exact .inl ⟨_, SqL.of (e _ _ h), by rw [r.isEmpty]; exact t⟩
  | _ => exact (show False from t).elim
theorem dt_truth {p : Bool → Mem → Prop} (h : DE X Z e δ M fun x M1 => ∃ k, Tru M1 x k ∧ p k M1) (he : ∀ whole, isTrue e X.env whole = (do let v ← whole; standAt e.pos; holding [v] (truthy v)) := by intro _; rfl) : DT X Z e δ M p :=
  fun W σ H A Q k => of_pt (pt_truth pe_w he) (h W σ H A _ fun v x M1 W1 H1 A1 s1 r1 ⟨c, hc, hp⟩ => ⟨c, tru_of A1.same A1.cel r1 hc, k c M1 W1 H1 A1 s1 hp⟩)
theorem dw_and1 {p : Bool → Mem → Prop} (h : DT X Z a δ M p) : DW X Z (.BoolOp .And [a] pos) δ M p := fun W σ H A Q k => of_pw (pw_and1 pt_w) (h W σ H A Q k)
theorem dw_or1 {p : Bool → Mem → Prop} (h : DT X Z a δ M p) : DW X Z (.BoolOp .Or [a] pos) δ M p := fun W σ H A Q k => of_pw (pw_or1 pt_w) (h W σ H A Q k)
theorem dw_and {p : Bool → Mem → Prop} (h : DT X Z a δ M fun c M1 => if c = true then DW X Z (.BoolOp .And (b :: es) pos) δ M1 p else p false M1) : DW X Z (.BoolOp .And (a :: b :: es) pos) δ M p := fun W σ H A Q k => by
  refine of_pw (pw_and pt_w pw_w) (h W σ H A _ fun c M1 W1 H1 A1 s1 hp => ?_)
  cases c with
  | true => rw [if_pos rfl] at hp ⊢; exact hp W1 σ H1 A1 Q fun c M2 W2 H2 A2 s2 q => k c M2 W2 H2 A2 (s1.trans s2) q
  | false => rw [if_neg Bool.false_ne_true] at hp ⊢; exact k false M1 W1 H1 A1 s1 hp
theorem dw_or {p : Bool → Mem → Prop} (h : DT X Z a δ M fun c M1 => if c = true then p true M1 else DW X Z (.BoolOp .Or (b :: es) pos) δ M1 p) : DW X Z (.BoolOp .Or (a :: b :: es) pos) δ M p := fun W σ H A Q k => by
  refine of_pw (pw_or pt_w pw_w) (h W σ H A _ fun c M1 W1 H1 A1 s1 hp => ?_)
  cases c with
  | true => rw [if_pos rfl] at hp ⊢; exact k true M1 W1 H1 A1 s1 hp
  | false => rw [if_neg Bool.false_ne_true] at hp ⊢; exact hp W1 σ H1 A1 Q fun c M2 W2 H2 A2 s2 q => k c M2 W2 H2 A2 (s1.trans s2) q
theorem dt_not {p : Bool → Mem → Prop} (h : DT X Z a δ M fun c M1 => p (!c) M1) : DT X Z (.UnaryOp .Not a pos) δ M p := fun W σ H A Q k => of_pt (pt_not pt_w) (h W σ H A _ fun c M1 W1 H1 A1 s1 hp => k (!c) M1 W1 H1 A1 s1 hp)
/-- and, or, not as values of truth values -/
theorem de_one {op : BoolOp} (h : DE X Z a δ M post) : DE X Z (.BoolOp op [a] pos) δ M post := fun W σ H A Q k => of_pe (pe_one pe_w) (h W σ H A Q k)
theorem de_and (h : DE X Z a δ M fun x M1 => ∃ c, x = .bl c ∧ if c = true then DE X Z (.BoolOp .And (b :: es) pos) δ M1 post else post (.bl false) M1) : DE X Z (.BoolOp .And (a :: b :: es) pos) δ M post := fun W σ H A Q k => by
  refine of_pe (pe_and pe_w pe_w) (h W σ H A _ fun v x M1 W1 H1 A1 s1 r1 ⟨c, ec, hp⟩ => ?_)
  subst ec
  refine ⟨c, r1.bl_inv, ?_⟩
  cases c with
  | true => rw [if_pos rfl] at hp ⊢; exact hp W1 σ H1 A1 Q fun v d M2 W2 H2 A2 s2 q => k v d M2 W2 H2 A2 (s1.trans s2) q
  | false => rw [if_neg Bool.false_ne_true] at hp ⊢; exact k _ _ M1 W1 H1 A1 s1 (.bl false) hp
theorem de_or (h : DE X Z a δ M fun x M1 => ∃ c, x = .bl c ∧ if c = true then post (.bl true) M1 else DE X Z (.BoolOp .Or (b :: es) pos) δ M1 post) : DE X Z (.BoolOp .Or (a :: b :: es) pos) δ M post := fun W σ H A Q k => by
  refine of_pe (pe_or pe_w pe_w) (h W σ H A _ fun v x M1 W1 H1 A1 s1 r1 ⟨c, ec, hp⟩ => ?_)
  subst ec
  refine ⟨c, r1.bl_inv, ?_⟩
  cases c with
  | true => rw [if_pos rfl] at hp ⊢; exact k _ _ M1 W1 H1 A1 s1 (.bl true) hp
  | false => rw [if_neg Bool.false_ne_true] at hp ⊢; exact hp W1 σ H1 A1 Q fun v d M2 W2 H2 A2 s2 q => k v d M2 W2 H2 A2 (s1.trans s2) q
theorem de_not (h : DE X Z a δ M fun x M1 => ∃ c, x = .bl c ∧ post (.bl (!c)) M1) : DE X Z (.UnaryOp .Not a pos) δ M post := fun W σ H A Q k =>
  of_pe (pe_not pe_w) (h W σ H A _ fun v x M1 W1 H1 A1 s1 r1 ⟨c, ec, hp⟩ => by subst ec; exact ⟨c, r1.bl_inv, k _ _ M1 W1 H1 A1 s1 (.bl _) hp⟩)
theorem de_ite (h : DT X Z c δ M fun k M1 => if k = true then DE X Z a δ M1 post else DE X Z b δ M1 post) : DE X Z (.IfExp c a b pos) δ M post := fun W σ H A Q k => by
  refine of_pe (pe_ifExp pt_w pe_w pe_w) (h W σ H A _ fun t M1 W1 H1 A1 s1 hp => ?_)
  cases t with
  | true => rw [if_pos rfl] at hp ⊢; exact hp W1 σ H1 A1 Q fun v d M2 W2 H2 A2 s2 q => k v d M2 W2 H2 A2 (s1.trans s2) q
  | false => rw [if_neg Bool.false_ne_true] at hp ⊢; exact hp W1 σ H1 A1 Q fun v d M2 W2 H2 A2 s2 q => k v d M2 W2 H2 A2 (s1.trans s2) q
/-! ### argument lists, displays -/
theorem da_nil {p : List D → Mem → Prop} (h : p [] M) : DA X Z [] δ M p := fun W σ H A Q k => of_pa pa_nil (k [] [] M W H A (Same.refl _) .nil h)
theorem da_cons {p : List D → Mem → Prop} (h : DE X Z e δ M fun d M1 => DA X Z es δ M1 fun ds M2 => p (d :: ds) M2) (hs : starEach (e :: es) X.env = (false, eval e X.env) :: starEach es X.env := by rfl) : DA X Z (e :: es) δ M p := fun W σ H A Q k =>
  of_pa (pa_cons pe_w pa_w hs) (h W σ H A _ fun v d M1 W1 H1 A1 s1 r1 h1 => h1 W1 σ H1 A1 _ fun vs ds M2 W2 H2 A2 s2 r2 h2 => k (v :: vs) (d :: ds) M2 W2 H2 A2 (s1.trans s2) (.cons (r1.mono s2) r2) h2)
theorem de_tup {x1 : Nat} (h : DA X Z es δ M fun ds M1 => ds.length ≤ sizeLine ∧ post (.tup ds) M1) : DE X Z (.Tuple es x1 pos) δ M post := fun W σ H A Q k =>
  of_pe (pe_tup pa_w) (h W σ H A _ fun vs ds M1 W1 H1 A1 s1 r1 ⟨hl, hp⟩ => ⟨by rw [r1.length]; exact hl, fun p hn =>
    have st := Step.new (o := .tup vs) A1.same hn
    k _ _ M1 _ _ (A1.step st) (s1.trans st.w) (.tup (SqT.of upd_same) (r1.mono st.w)) hp⟩)
theorem de_lst (h : DA X Z es δ M fun ds M1 => ds.length ≤ sizeLine ∧ post (.lst ds) M1) : DE X Z (.List es pos) δ M post := fun W σ H A Q k =>
  of_pe (pe_lst pa_w) (h W σ H A _ fun vs ds M1 W1 H1 A1 s1 r1 ⟨hl, hp⟩ => ⟨by rw [r1.length]; exact hl, fun p hn =>
    have st := Step.new (o := .lst vs) A1.same hn
    k _ _ M1 _ _ (A1.step st) (s1.trans st.w) (.lst upd_same (r1.mono st.w)) hp⟩)
/-- a list that will change: a new cell of the store -/
theorem de_lstM (h : DA X Z es δ M fun ds M1 => ds.length ≤ sizeLine ∧ ∀ p, M1 p = none → Z.H p = none → post (.adr p) (M1.set p (.lst ds))) : DE X Z (.List es pos) δ M post := fun W σ H A Q k =>
  of_pe (pe_lst pa_w) (h W σ H A _ fun vs ds M1 W1 H1 A1 s1 r1 ⟨hl, hp⟩ => ⟨by rw [r1.length]; exact hl, fun p hn =>
    k _ _ _ _ _ (A1.alloc hn (.lst r1)) s1 (.adr p) (hp p (A1.mfresh hn) (A1.fr.back hn))⟩)
/-! ### built-ins -/
theorem de_callB {x : Str} {p : Pos} {id : String} {r : List V → Hp → VK → Prop} (hc : CallR X (.builtin id) r) (hm : X.mg x = none) (h : DA X Z (e :: es) δ M fun ds M1 => ∃ z, RC X.K M1 r ds z ∧ post z M1) (hv : bootBuiltins x = some (.builtin id) := by decide +kernel) (hg : Gl X x := by rfl)
    (hn : x ≠ "__name__" := by decide) (hdb : (x == ("__debug__" : Str)) = false := by decide) (he : starEach (e :: es) X.env = (false, eval e X.env) :: starEach es X.env := by rfl) (hpl : (backTo pos (starEach es X.env)).any (·.1) = false := by rfl) : DE X Z (.Call (.Name x p) (e :: es) [] pos) δ M post := fun W σ H A Q k =>
  of_pe (pe_callB hc hg hm hv pa_w hn hdb he hpl) (h W σ H A _ fun vs ds M1 W1 H1 A1 s1 r1 ⟨z, hz, hp⟩ => hz W1 H1 vs _ A1.same A1.cel r1 fun w W2 H2 st rz => k w z M1 W2 H2 (A1.step st) (s1.trans st.w) rz hp)
theorem de_callTy {x : Str} {p : Pos} {T : String} {r : List V → Hp → VK → Prop} (hc : CallR X (.type T) r) (hm : X.mg x = none) (h : DA X Z (e :: es) δ M fun ds M1 => ∃ z, RC X.K M1 r ds z ∧ post z M1) (hv : bootBuiltins x = some (.type T) := by decide +kernel) (hg : Gl X x := by rfl)
    (hn : x ≠ "__name__" := by decide) (hdb : (x == ("__debug__" : Str)) = false := by decide) (he : starEach (e :: es) X.env = (false, eval e X.env) :: starEach es X.env := by rfl) (hpl : (backTo pos (starEach es X.env)).any (·.1) = false := by rfl) : DE X Z (.Call (.Name x p) (e :: es) [] pos) δ M post := fun W σ H A Q k =>
  of_pe (pe_callTy hc hg hm hv pa_w hn hdb he hpl) (h W σ H A _ fun vs ds M1 W1 H1 A1 s1 r1 ⟨z, hz, hp⟩ => hz W1 H1 vs _ A1.same A1.cel r1 fun w W2 H2 st rz => k w z M1 W2 H2 (A1.step st) (s1.trans st.w) rz hp)
theorem de_ix {r : R2} (hr : IxR X r) (h : DE X Z a δ M fun x M1 => DE X Z b δ M1 fun y M2 => ∃ z, RO X.K M2 r x y z ∧ post z M2) (hs : PlainIx b := by intro _ _; rfl) : DE X Z (.Subscript a b pos) δ M post :=
  fun W σ H A Q k => of_pe (pe_ix hr pe_w pe_w hs) (h W σ H A _ fun v x M1 W1 H1 A1 s1 r1 h1 => h1 W1 σ H1 A1 _ fun u y M2 W2 H2 A2 s2 r2 ⟨z, hz, hp⟩ =>
    hz W2 H2 v u _ A2.same A2.cel (r1.mono s2) r2 fun w W3 H3 st rz => k w z M2 W3 H3 (A2.step st) (s1.trans (s2.trans st.w)) rz hp)
end
/-! ### statements -/
section
variable {X : Cx} {Z : Ent} {e a b c : Expr} {es : List Expr} {st : Stmt} {sts s1 s2 : List Stmt} {δ : Dl} {M : Mem} {P : DEnds} {pos : Pos}
theorem ds_nil (h : P.nx δ M) : DS X Z [] δ M P := fun W σ H A Dn f => of_pss pss_nil (f.nx δ M W σ H A (Same.refl _) h)
theorem ds_cons (h : DS1 X Z st δ M { P with nx := fun δ' M' => DS X Z sts δ' M' P }) : DS X Z (st :: sts) δ M P := fun W σ H A Dn f => by
  refine of_pss (pss_cons ps_w pss_w) (h W σ H A _ ⟨fun δ' M' W' σ' H' A' s q => q W' σ' H' A' Dn (f.mono s), f.rt, f.bk, f.ct⟩)
theorem ds_one (h : DS1 X Z st δ M P) : DS X Z [st] δ M P := fun W σ H A Dn f => of_pss (pss_one ps_w) (h W σ H A Dn f)
theorem DS.imp {P' : DEnds} (h : DS X Z sts δ M P) (h1 : ∀ δ M, P.nx δ M → P'.nx δ M) (h2 : ∀ d M, P.rt d M → P'.rt d M) (h3 : ∀ δ M, P.bk δ M → P'.bk δ M) (h4 : ∀ δ M, P.ct δ M → P'.ct δ M) : DS X Z sts δ M P' := fun W σ H A Dn f =>
  h W σ H A Dn ⟨fun δ M W' σ H A s q => f.nx δ M W' σ H A s (h1 _ _ q), fun v d δ M W' σ H A s r q => f.rt v d δ M W' σ H A s r (h2 _ _ q), fun δ M W' σ H A s q => f.bk δ M W' σ H A s (h3 _ _ q), fun δ M W' σ H A s q => f.ct δ M W' σ H A s (h4 _ _ q)⟩
theorem ds_pass (h : P.nx δ M) : DS1 X Z (.Pass pos) δ M P := fun W σ H A Dn f => of_ps ps_pass (f.nx δ M W σ H A (Same.refl _) h)
theorem ds_break (h : P.bk δ M) : DS1 X Z (.Break pos) δ M P := fun W σ H A Dn f => of_ps ps_break (f.bk δ M W σ H A (Same.refl _) h)
theorem ds_continue (h : P.ct δ M) : DS1 X Z (.Continue pos) δ M P := fun W σ H A Dn f => of_ps ps_continue (f.ct δ M W σ H A (Same.refl _) h)
theorem ds_expr (h : DE X Z e δ M fun _ M1 => P.nx δ M1) (hs : swapsWith e none pos.line X.env = pure false := by rfl) : DS1 X Z (.Expr e pos) δ M P := fun W σ H A Dn f =>
  of_ps (ps_expr pe_w hs) (h W σ H A _ fun v d M1 W1 H1 A1 s1 r1 p => f.nx δ M1 W1 σ H1 A1 s1 p)
theorem ds_ret (h : DE X Z e δ M P.rt) : DS1 X Z (.Return (some e) pos) δ M P := fun W σ H A Dn f =>
  of_ps (ps_ret pe_w) (h W σ H A _ fun v d M1 W1 H1 A1 s1 r1 p => f.rt v d δ M1 W1 σ H1 A1 s1 r1 p)
theorem ds_retN (h : P.rt .non M) : DS1 X Z (.Return none pos) δ M P := fun W σ H A Dn f => of_ps ps_retN (f.rt .non .non δ M W σ H A (Same.refl _) .non h)
theorem ds_if (h : DT X Z c δ M fun k M1 => if k = true then DS X Z s1 δ M1 P else DS X Z s2 δ M1 P) : DS1 X Z (.If c s1 s2 pos) δ M P := fun W σ H A Dn f => by
  refine of_ps (ps_if pt_w pss_w pss_w) (h W σ H A _ fun t M1 W1 H1 A1 s1 hp => ?_)
  cases t with
  | true => rw [if_pos rfl] at hp ⊢; exact hp W1 σ H1 A1 Dn (f.mono s1)
  | false => rw [if_neg Bool.false_ne_true] at hp ⊢; exact hp W1 σ H1 A1 Dn (f.mono s1)
theorem ds_set (i : Nat) {x : Str} {pos' : Pos} (h : DE X Z e δ M fun d M1 => P.nx (δ.set i (some d)) M1) (hN : X.N.Nodup) (hi : X.N[i]? = some x := by rfl) (hx : Loc X.env.scope x := by first | exact Or.inl rfl | exact Or.inr rfl) (hs : swapsWith e (some (.Name x pos')) pos.line X.env = pure false := by rfl)
    (hf : X.fn x = true ∨ X.env.scope.names.lookup x = some .local := by first | exact .inl rfl | exact .inr rfl) : DS1 X Z (.Assign [.Name x pos'] e pos) δ M P := fun W σ H A Dn f =>
  of_ps (ps_set hN hi hx pe_w hs hf) (h W σ H A _ fun v d M1 W1 H1 A1 s1 r1 p => f.nx _ M1 W1 _ H1 (A1.setσ r1) s1 p)
/-- a, b = e1, e2 -/
theorem ds_par (i j : Nat) {x y : Str} {px py pt : Pos} {kt k2 : Nat} {pt2 : Pos} (h : DE X Z a δ M fun d M1 => DE X Z b δ M1 fun d' M2 => P.nx ((δ.set i (some d)).set j (some d')) M2) (hN : X.N.Nodup) (hij : i ≠ j := by decide) (hc : X.calm = true := by rfl) (hi : X.N[i]? = some x := by rfl) (hj : X.N[j]? = some y := by rfl)
    (hx : X.env.scope.names.lookup x = some .local := by rfl) (hy : X.env.scope.names.lookup y = some .local := by rfl)
    (hw : swappedStores [.Tuple [.Name x px, .Name y py] kt pt] (.Tuple [a, b] k2 pt2) X.env = pure (some [x, y]) := by rfl)
    (hs : swapsWithSole [.Tuple [.Name x px, .Name y py] kt pt] (.Tuple [a, b] k2 pt2) pos.line X.env = pure false := by rfl) (h2 : starEach [a, b] X.env = (false, eval a X.env) :: starEach [b] X.env := by rfl) (h3 : starEach [b] X.env = (false, eval b X.env) :: starEach [] X.env := by rfl) :
    DS1 X Z (.Assign [.Tuple [.Name x px, .Name y py] kt pt] (.Tuple [a, b] k2 pt2) pos) δ M P := fun W σ H A Dn f =>
  of_ps (ps_par hc hN hi hj hij hx hy (pa_cons pe_w (pa_cons pe_w pa_nil h3) h2) hw hs) (h W σ H A _ fun v d M1 W1 H1 A1 s1 r1 h1 => h1 W1 σ H1 A1 _ fun u d' M2 W2 H2 A2 s2 r2 p =>
    ⟨v, u, rfl, f.nx _ M2 W2 _ H2 ((A2.setσ (r1.mono s2)).setσ r2) (s1.trans s2) p⟩)
/-- x += e, ints -/
theorem ds_augI (i : Nat) {x : Str} {pos' : Pos} {op : Operator} {g : Int → Int → Int} (ho : PIp X op (ipI g)) (h : ∃ n, δ[i]? = some (some (.int n)) ∧ DE X Z e δ M fun d M1 => ∃ m, d = .int m ∧ P.nx (δ.set i (some (.int (g n m)))) M1) (hN : X.N.Nodup) (hi : X.N[i]? = some x := by rfl)
    (hx : Loc X.env.scope x := by first | exact Or.inl rfl | exact Or.inr rfl) (hf : X.fn x = true ∨ X.env.scope.names.lookup x = some .local := by first | exact .inl rfl | exact .inr rfl) : DS1 X Z (.AugAssign (.Name x pos') op e pos) δ M P := fun W σ H A Dn f => by
  obtain ⟨n, hn, h⟩ := h
  obtain ⟨v, hσ, r⟩ := A.env i _ hn
  have e1 := r.int_inv
  subst e1
  refine of_ps (ps_aug hN hi hx pe_w ho hf) ⟨_, hσ, h W σ H A _ fun u d M1 W1 H1 A1 s1 r1 ⟨m, em, p⟩ => ?_⟩
  subst em
  have e2 := r1.int_inv
  subst e2
  exact ⟨n, m, rfl, rfl, f.nx _ M1 W1 _ H1 (A1.setσ (.int (g n m))) s1 p⟩
/-- code that is never come to -/
theorem ds_never (h : False) : DS X Z sts δ M P := h.elim
/-! ### loops -/
theorem Fits.loop {K : PySem.W.Frag} {W W1 : Hp} {Dn : Ends} {N : St → Hp → Prop} {J : Dl → Mem → Prop} (f : Fits K Z W P Dn) (e : Same W W1) (hn : ∀ δ M W' σ H, At K Z δ M W' σ H → Same W1 W' → J δ M → N σ H) :
    Fits K Z W1 { P with nx := J, ct := J, bk := P.nx } { Dn with nx := N, ct := N, bk := Dn.nx } :=
  ⟨hn, fun v d δ M W' σ H a s r q => f.rt v d δ M W' σ H a (e.trans s) r q, fun δ M W' σ H a s q => f.nx δ M W' σ H a (e.trans s) q, hn⟩
theorem ds_while (hp : PassesOwn (model X.prog X.w) X.A X.env X.xe) (J : Nat → Dl → Mem → Prop) (n : Nat) (h0 : J n δ M)
    (hs : ∀ n δ M, J n δ M → DT X Z c δ M fun k M1 => if k = true then DS X Z sts δ M1 { P with nx := fun δ' M' => ∃ m, m < n ∧ J m δ' M', ct := fun δ' M' => ∃ m, m < n ∧ J m δ' M', bk := P.nx } else P.nx δ M1) : DS1 X Z (.While c sts [] pos) δ M P := fun W σ H A Dn f => by
  refine of_ps (ps_while hp pt_w pss_w) ⟨fun m σ' H' => ∃ δ' M' W', At X.K Z δ' M' W' σ' H' ∧ Same W W' ∧ J m δ' M', ⟨n, δ, M, W, A, Same.refl _, h0⟩, ?_⟩
  rintro m σ1 H1 ⟨δ1, M1, W1, A1, s1, j1⟩
  refine hs m δ1 M1 j1 W1 σ1 H1 A1 _ fun b M2 W2 H2 A2 s2 hp2 => ?_
  cases b with
  | false =>
    rw [if_neg Bool.false_ne_true] at hp2 ⊢
    exact f.nx δ1 M2 W2 σ1 H2 A2 (s1.trans s2) hp2
  | true =>
    rw [if_pos rfl] at hp2 ⊢
    refine ⟨fun σ' H' => ∃ m', m' < m ∧ ∃ δ' M' W', At X.K Z δ' M' W' σ' H' ∧ Same W W' ∧ J m' δ' M', fun σ' H' h => h, hp2 W2 σ1 H2 A2 _ ⟨fun δ' M' W' σ' H' A' s' ⟨m', hm, j⟩ => ⟨m', hm, δ', M', W', A', s1.trans (s2.trans s'), j⟩, fun v d δ' M' W' σ' H' A' s' r q => f.rt v d δ' M' W' σ' H' A' (s1.trans (s2.trans s')) r q,
      fun δ' M' W' σ' H' A' s' q => f.nx δ' M' W' σ' H' A' (s1.trans (s2.trans s')) q, fun δ' M' W' σ' H' A' s' ⟨m', hm, j⟩ => ⟨m', hm, δ', M', W', A', s1.trans (s2.trans s'), j⟩⟩⟩
end
/-! ### targets -/
structure wG (X : Cx) (tg : Expr) (v : V) (σ : St) (H : Hp) (Q : St → Hp → Prop) : Prop where
  run : ∀ (pins : List (Addr × Obj)) (s : Shared) (u : Value), Inv X pins σ H s → RelV v u → wpAny (model X.prog X.w) X.A (assign tg X.env u) (fun _ s' => ∃ σ' H', Inv X pins σ' H' s' ∧ Q σ' H') X.xe s
theorem pg_w {X : Cx} {tg : Expr} : PG X tg (wG X tg) := ⟨fun pins s _ _ _ u _ I r h => h.run pins s u I r⟩
theorem of_pg {X : Cx} {tg : Expr} {t : TG} {v : V} {σ : St} {H : Hp} {Q : St → Hp → Prop} (h : PG X tg t) (q : t v σ H Q) : wG X tg v σ H Q := ⟨fun pins s u I r => h.run pins s σ H v u Q I r q⟩
def DG (X : Cx) (Z : Ent) (tg : Expr) (d : D) (δ : Dl) (M : Mem) (post : Dl → Mem → Prop) : Prop :=
  ∀ W σ H v, At X.K Z δ M W σ H → Rep X.K W v d → ∀ Q : St → Hp → Prop, (∀ δ' M' W' σ' H', At X.K Z δ' M' W' σ' H' → Same W W' → post δ' M' → Q σ' H') → wG X tg v σ H Q
structure wGs (X : Cx) (tgs : List Expr) (vs : List V) (σ : St) (H : Hp) (Q : St → Hp → Prop) : Prop where
  run : ∀ (pins : List (Addr × Obj)) (s : Shared) (us : List Value), Inv X pins σ H s → Vals vs us → wpAny (model X.prog X.w) X.A (assignInOrder ((assignEach tgs X.env).map (·.2)) us) (fun _ s' => ∃ σ' H', Inv X pins σ' H' s' ∧ Q σ' H') X.xe s
theorem pgs_w {X : Cx} {tgs : List Expr} : PGs X tgs (wGs X tgs) := ⟨fun pins s _ _ _ us _ I r h => h.run pins s us I r⟩
theorem of_pgs {X : Cx} {tgs : List Expr} {t : TGs} {vs : List V} {σ : St} {H : Hp} {Q : St → Hp → Prop} (h : PGs X tgs t) (q : t vs σ H Q) : wGs X tgs vs σ H Q := ⟨fun pins s us I r => h.run pins s σ H vs us Q I r q⟩
/-- several targets, one after another: at the data ds -/
def DGs (X : Cx) (Z : Ent) (tgs : List Expr) (ds : List D) (δ : Dl) (M : Mem) (post : Dl → Mem → Prop) : Prop :=
  ∀ W σ H vs, At X.K Z δ M W σ H → Reps X.K W vs ds → ∀ Q : St → Hp → Prop, (∀ δ' M' W' σ' H', At X.K Z δ' M' W' σ' H' → Same W W' → post δ' M' → Q σ' H') → wGs X tgs vs σ H Q
section
variable {X : Cx} {Z : Ent} {e tg : Expr} {es tgs : List Expr} {st : Stmt} {sts : List Stmt} {δ : Dl} {M : Mem} {P : DEnds} {pos : Pos} {d : D} {ds : List D} {post : Dl → Mem → Prop}
theorem dg_name (i : Nat) {x : Str} (h : post (δ.set i (some d)) M) (hN : X.N.Nodup) (hi : X.N[i]? = some x := by rfl) (hx : Loc X.env.scope x := by first | exact Or.inl rfl | exact Or.inr rfl) (hf : X.fn x = true ∨ X.env.scope.names.lookup x = some .local := by first | exact .inl rfl | exact .inr rfl) :
    DG X Z (.Name x pos) d δ M post := fun W σ H v A r Q k => of_pg (pg_name hN hi hx hf) (k _ M W _ H (A.setσ r) (Same.refl _) h)
theorem dgs_nil (h : post δ M) : DGs X Z [] [] δ M post := fun W σ H vs A r Q k => by
  cases r
  exact of_pgs pgs_nil ⟨rfl, k δ M W σ H A (Same.refl _) h⟩
theorem dgs_cons (h : DG X Z tg d δ M fun δ1 M1 => DGs X Z tgs ds δ1 M1 post) (hs : (assignEach (tg :: tgs) X.env).map (·.2) = assign tg X.env :: (assignEach tgs X.env).map (·.2) := by rfl) : DGs X Z (tg :: tgs) (d :: ds) δ M post := fun W σ H vs A r Q k => by
  cases r with
  | @cons x _ xs _ rx rr =>
    refine of_pgs (pgs_cons pg_w pgs_w hs) ⟨x, xs, rfl, ?_⟩
    exact h W σ H x A rx (fun σ' H' => wGs X tgs xs σ' H' Q) (fun δ' M' W' σ' H' A' s' q => q W' σ' H' xs A' (rr.mono s') Q (fun δ2 M2 W2 σ2 H2 A2 s2 q2 => k δ2 M2 W2 σ2 H2 A2 (s'.trans s2) q2))
/-- (a, b, ..) = a tuple -/
theorem dg_tup {k : Nat} (h : DGs X Z es ds δ M post) (hl : ds.length = es.length) (hc : X.calm = true := by rfl) (hn : (assignEach es X.env).length = es.length := by rfl) (hst : (assignEach es X.env).findIdx? (·.1) = none := by rfl) : DG X Z (.Tuple es k pos) (.tup ds) δ M post := fun W σ H v A r Q q => by
  obtain ⟨a, xs, e1, hs, rs⟩ := r.tup_inv
  subst e1
  exact of_pg (pg_tup hc pgs_w hn hst) ⟨a, xs, rfl, sqT_same A.same hs, by rw [rs.length, hl], h W σ H xs A rs Q q⟩
/-- target = e -/
theorem ds_asg (h : DE X Z e δ M fun d M1 => DG X Z tg d δ M1 P.nx) (hs : swapsWithSole [tg] e pos.line X.env = pure false := by rfl) (hw : swappedStores [tg] e X.env = pure none := by rfl) (h1 : (assignEach [tg] X.env).map (·.2) = [assign tg X.env] := by rfl) : DS1 X Z (.Assign [tg] e pos) δ M P :=
  fun W σ H A Dn f => of_ps (ps_asg pe_w pg_w hs hw h1) (h W σ H A _ fun v d M1 W1 H1 A1 s1 r1 g => g W1 σ H1 v A1 r1 _ (fun δ' M' W' σ' H' A' s' q => f.nx δ' M' W' σ' H' A' (s1.trans s') q))
end
end DL
namespace DL
open PySem L2
/-! ### what is walked: a known row of data -/
/-- J goes through l, in every heap that keeps W0 -/
structure Walks (K : PySem.W.Frag) (W0 : Hp) (J : It) (l : List D) : Prop where
  go : ∀ (i : Nat) (W H : Hp), Same W0 W → Same W H → i < l.length → J.go i H
  stop : ∀ (i : Nat) (W H : Hp), Same W0 W → Same W H → l.length ≤ i → J.stop i H
  yld : ∀ (i : Nat) (W H : Hp) (x : V) (H' : Hp) (d : D), Same W0 W → Same W H → l[i]? = some d → J.yld i H x H' → ∃ W', Step W H W' H' ∧ Rep K W' x d
structure wI (X : Cx) (tg iter : Expr) (σ : St) (H : Hp) (R : It → Hp → Prop) : Prop where
  run : ∀ (pins : List (Addr × Obj)) (s : Shared), Inv X pins σ H s →
  wpAny (model X.prog X.w) X.A (eval iter X.env) (fun v s1 => wpAny (model X.prog X.w) X.A (pyIter v) (PIE X pins σ tg R) X.xe s1) X.xe s
theorem pi_w {X : Cx} {tg iter : Expr} : PI X tg iter (wI X tg iter) := ⟨fun pins s _ _ _ I h => h.run pins s I⟩
theorem of_pi {X : Cx} {tg iter : Expr} {t : TI} {σ : St} {H : Hp} {R : It → Hp → Prop} (h : PI X tg iter t) (q : t σ H R) : wI X tg iter σ H R := ⟨fun pins s I => h.run pins s σ H R I q⟩
def DI (X : Cx) (Z : Ent) (tg iter : Expr) (δ : Dl) (M : Mem) (post : List D → Mem → Prop) : Prop :=
  ∀ W σ H, At X.K Z δ M W σ H → ∀ R : It → Hp → Prop, (∀ l M' W' H' J, At X.K Z δ M' W' σ H' → Same W W' → Walks X.K W' J l → post l M' → R J H') → wI X tg iter σ H R
theorem walks_list {K : PySem.W.Frag} {W0 : Hp} {a : Addr} {xs : List V} {l : List D} (h : SqL K W0 a xs) (r : Reps K W0 xs l) (inj : ∀ (W H : Hp) ys, Same W0 W → Same W H → SqL K H a ys → ys = xs) : Walks K W0 (Itl K a) l where
  go := fun i W H s1 s2 hi => ⟨xs, xs[i]'(by rw [r.length]; exact hi), sqL_same (s1.trans s2) h, by simp⟩
  stop := fun i W H s1 s2 hi => ⟨xs, sqL_same (s1.trans s2) h, by rw [r.length]; exact hi⟩
  yld := fun i W H x H' d s1 s2 hd ⟨e, y⟩ => by
    subst e
    obtain ⟨v, hv, rv⟩ := r.get hd
    have e := y xs (sqL_same (s1.trans s2) h)
    rw [hv] at e
    cases e
    exact ⟨W, Step.refl s2, rv.mono s1⟩
section
variable {X : Cx} {Z : Ent} {e e2 tg : Expr} {δ : Dl} {M : Mem} {post : List D → Mem → Prop} {pos p : Pos}
theorem di_list (h : DE X Z e δ M fun x M1 => ∃ l, x = .lst l ∧ post l M1) : DI X Z tg e δ M post := fun W σ H A R k =>
  of_pi (pi_list pe_w) (h W σ H A _ fun v x M1 W1 H1 A1 s1 r1 ⟨l, en, hp⟩ => by
    subst en
    obtain ⟨a, xs, ev, hl, rs⟩ := r1.lst_inv
    subst ev
    refine ⟨a, rfl, ⟨xs, SqL.of (A1.same _ _ hl)⟩, k l M1 W1 H1 _ A1 s1 ⟨fun i W2 H2 q1 q2 hi => ⟨xs, xs[i]'(by rw [rs.length]; exact hi), SqL.of (q2 _ _ (q1 _ _ hl)), by simp⟩, fun i W2 H2 q1 q2 hi => ⟨xs, SqL.of (q2 _ _ (q1 _ _ hl)), by rw [rs.length]; exact hi⟩, fun i W2 H2 x H' d q1 q2 hd ⟨e, y⟩ => ?_⟩ hp⟩
    subst e
    obtain ⟨v, hv, rv⟩ := rs.get hd
    have e := y xs (SqL.of (q2 _ _ (q1 _ _ hl)))
    rw [hv] at e
    cases e
    exact ⟨W2, Step.refl q2, rv.mono q1⟩)
theorem di_tup (h : DE X Z e δ M fun x M1 => ∃ l, x = .tup l ∧ post l M1) : DI X Z tg e δ M post := fun W σ H A R k =>
  of_pi (pi_tup pe_w) (h W σ H A _ fun v x M1 W1 H1 A1 s1 r1 ⟨l, en, hp⟩ => by
    subst en
    obtain ⟨a, xs, ev, hl, rs⟩ := r1.tup_inv
    subst ev
    refine ⟨a, rfl, ⟨xs, sqT_same A1.same hl⟩, k l M1 W1 H1 _ A1 s1 ⟨fun i W2 H2 q1 q2 hi => ⟨xs, xs[i]'(by rw [rs.length]; exact hi), sqT_same (q1.trans q2) hl, by simp⟩, fun i W2 H2 q1 q2 hi => ⟨xs, sqT_same (q1.trans q2) hl, by rw [rs.length]; exact hi⟩, fun i W2 H2 x H' d q1 q2 hd ⟨e, y⟩ => ?_⟩ hp⟩
    subst e
    obtain ⟨v, hv, rv⟩ := rs.get hd
    have e := y xs (sqT_same (q1.trans q2) hl)
    rw [hv] at e
    cases e
    exact ⟨W2, Step.refl q2, rv.mono q1⟩)
def rangeD (lo : Int) (n : Nat) : List D := (List.range n).map fun i => D.int (lo + (i : Nat))
theorem rangeD_length (lo : Int) (n : Nat) : (rangeD lo n).length = n := by unfold rangeD; rw [List.length_map, List.length_range]
theorem rangeD_get {lo : Int} {n i : Nat} (h : i < n) : (rangeD lo n)[i]? = some (.int (lo + (i : Nat))) := by
  unfold rangeD
  rw [List.getElem?_map, List.getElem?_range h]
  rfl
theorem walks_range {K : PySem.W.Frag} {W0 : Hp} {lo : Int} {n : Nat} : Walks K W0 (Itr lo n) (rangeD lo n) where
  go := fun i W H _ _ hi => by rw [rangeD_length] at hi; exact hi
  stop := fun i W H _ _ hi => by rw [rangeD_length] at hi; exact hi
  yld := fun i W H x H' d s1 s2 hd ⟨e, y⟩ => by
    subst e y
    by_cases hi : i < n
    · rw [rangeD_get hi] at hd
      cases hd
      exact ⟨W, Step.refl s2, .int _⟩
    · rw [List.getElem?_eq_none (by rw [rangeD_length]; omega)] at hd
      cases hd
theorem di_range1 (hm : X.mg "range" = none) (h : DE X Z e δ M fun x M1 => ∃ n : Int, x = .int n ∧ (-(2 ^ 62) ≤ n ∧ n < 2 ^ 62) ∧ post (rangeD 0 n.toNat) M1) (hg : Gl X "range" := by rfl) (hs : starEach [e] X.env = [(false, eval e X.env)] := by rfl)
    (hs' : starEach [e] X.env = (false, eval e X.env) :: starEach [] X.env := by rfl) : DI X Z tg (.Call (.Name "range" p) [e] [] pos) δ M post := fun W σ H A R k =>
  of_pi (pi_range1 hg hm (pa_cons pe_w pa_nil hs') hs) (h W σ H A _ fun v x M1 W1 H1 A1 s1 r1 ⟨n, en, ⟨h1, h2⟩, hp⟩ => by
    subst en
    have ev := r1.int_inv
    subst ev
    exact ⟨n, rfl, h1, h2, k _ M1 W1 H1 _ A1 s1 walks_range hp⟩)
theorem di_range2 (hm : X.mg "range" = none) (h : DE X Z e δ M fun x M1 => DE X Z e2 δ M1 fun y M2 => ∃ lo hi : Int, x = .int lo ∧ y = .int hi ∧ (-(2 ^ 62) ≤ lo ∧ lo < 2 ^ 62 ∧ -(2 ^ 62) ≤ hi ∧ hi < 2 ^ 62) ∧ post (rangeD lo (hi - lo).toNat) M2) (hg : Gl X "range" := by rfl)
    (hs : starEach [e, e2] X.env = [(false, eval e X.env), (false, eval e2 X.env)] := by rfl) (hs2 : starEach [e2] X.env = [(false, eval e2 X.env)] := by rfl)
    (h2 : starEach [e, e2] X.env = (false, eval e X.env) :: starEach [e2] X.env := by rfl) (h3 : starEach [e2] X.env = (false, eval e2 X.env) :: starEach [] X.env := by rfl) : DI X Z tg (.Call (.Name "range" p) [e, e2] [] pos) δ M post := fun W σ H A R k =>
  of_pi (pi_range2 hg hm (pa_cons pe_w (pa_cons pe_w pa_nil h3) h2) hs hs2) (h W σ H A _ fun v x M1 W1 H1 A1 s1 r1 h1 => h1 W1 σ H1 A1 _ fun v' y M2 W2 H2 A2 s2 r2 ⟨lo, hi, en, em, hb, hp⟩ => by
    subst en em
    have ev := r1.int_inv
    subst ev
    have ev := r2.int_inv
    subst ev
    exact ⟨lo, hi, rfl, hb, k _ M2 W2 H2 _ A2 (s1.trans s2) walks_range hp⟩)
/-- enumerate(list) -/
theorem di_enum {elts : List Expr} {kk : Nat} {tpos : Pos} (hm : X.mg "enumerate" = none) (h : DE X Z e δ M fun x M1 => ∃ l, x = .lst l ∧ post (l.mapIdx fun i d => .tup [.int (i : Nat), d]) M1) (hg : Gl X "enumerate" := by rfl)
    (hs : starEach [e] X.env = [(false, eval e X.env)] := by rfl) (hs' : starEach [e] X.env = (false, eval e X.env) :: starEach [] X.env := by rfl) : DI X Z (.Tuple elts kk tpos) (.Call (.Name "enumerate" p) [e] [] pos) δ M post := fun W σ H A R k =>
  of_pi (pi_enum hg hm (pa_cons pe_w pa_nil hs') hs) (h W σ H A _ fun v x M1 W1 H1 A1 s1 r1 ⟨l, en, hp⟩ => by
    subst en
    obtain ⟨a, xs, ev, hl, rs⟩ := r1.lst_inv
    subst ev
    refine ⟨a, xs, rfl, SqL.of (A1.same _ _ hl), k _ M1 W1 H1 _ A1 s1 ⟨fun i W2 H2 q1 q2 hi => ⟨xs, xs[i]'(by rw [List.length_mapIdx] at hi; rw [rs.length]; exact hi), SqL.of (q2 _ _ (q1 _ _ hl)), by simp⟩, fun i W2 H2 q1 q2 hi => ⟨xs, SqL.of (q2 _ _ (q1 _ _ hl)), by rw [List.length_mapIdx] at hi; rw [rs.length]; exact hi⟩, fun i W2 H2 x H' d q1 q2 hd ⟨T, x', e1, hT, e2, y⟩ => ?_⟩ hp⟩
    subst e1 e2
    rw [List.getElem?_mapIdx] at hd
    cases hq : l[i]? with
    | none => rw [hq] at hd; cases hd
    | some d0 =>
      rw [hq] at hd
      cases hd
      obtain ⟨v, hv, rv⟩ := rs.get hq
      have e := y xs (SqL.of (q2 _ _ (q1 _ _ hl)))
      rw [hv] at e
      obtain rfl := Option.some.inj e
      have st := Step.new (o := .tup [.int (i : Nat), v]) q2 hT
      exact ⟨_, st, .tup (SqT.of upd_same) (.cons (.int _) (.one (rv.mono (q1.trans st.w))))⟩)
/-- enumerate(tuple) is not served by the layer; zip of two lists, of two tuples -/
theorem di_zipL {elts : List Expr} {kk : Nat} {tpos : Pos} (hm : X.mg "zip" = none) (h : DE X Z e δ M fun x M1 => DE X Z e2 δ M1 fun y M2 => ∃ l m, x = .lst l ∧ y = .lst m ∧ post (List.zipWith (fun a b => .tup [a, b]) l m) M2) (hg : Gl X "zip" := by rfl)
    (h2 : starEach [e, e2] X.env = (false, eval e X.env) :: starEach [e2] X.env := by rfl) (h3 : starEach [e2] X.env = (false, eval e2 X.env) :: starEach [] X.env := by rfl) (hpl : (backTo pos (starEach [e2] X.env)).any (·.1) = false := by rfl) :
    DI X Z (.Tuple elts kk tpos) (.Call (.Name "zip" p) [e, e2] [] pos) δ M post := fun W σ H A R k =>
  of_pi (pi_zip hg hm (pa_cons pe_w (pa_cons pe_w pa_nil h3) h2) h2 hpl) (h W σ H A _ fun v x M1 W1 H1 A1 s1 r1 h1 => h1 W1 σ H1 A1 _ fun v' y M2 W2 H2 A2 s2 r2 ⟨l, m, en, em, hp⟩ => by
    subst en em
    obtain ⟨a, xs, ev, hl, rs⟩ := r1.lst_inv
    subst ev
    obtain ⟨b, ys, ev, hl2, rs2⟩ := r2.lst_inv
    subst ev
    have hl := s2 _ _ hl
    have rs := rs.mono s2
    refine ⟨a, b, xs, ys, rfl, SqL.of (A2.same _ _ hl), SqL.of (A2.same _ _ hl2), k _ M2 W2 H2 _ A2 (s1.trans s2) ⟨fun i W3 H3 q1 q2 hi => ?_, fun i W3 H3 q1 q2 hi => ⟨xs, ys, SqL.of (q2 _ _ (q1 _ _ hl)), SqL.of (q2 _ _ (q1 _ _ hl2)), ?_⟩, fun i W3 H3 x H' d q1 q2 hd ⟨T, x', y', e1, hT, e2, y1, y2⟩ => ?_⟩ hp⟩
    · rw [List.length_zipWith] at hi
      have i1 : i < xs.length := by rw [rs.length]; omega
      have i2 : i < ys.length := by rw [rs2.length]; omega
      exact ⟨xs, ys, xs[i], ys[i], SqL.of (q2 _ _ (q1 _ _ hl)), SqL.of (q2 _ _ (q1 _ _ hl2)), by simp, by simp⟩
    · rw [List.length_zipWith] at hi
      rw [rs.length, rs2.length]
      omega
    · subst e1 e2
      rw [List.getElem?_zipWith] at hd
      cases hq : l[i]? with
      | none => rw [hq] at hd; cases hd
      | some d0 =>
        cases hq2 : m[i]? with
        | none => rw [hq, hq2] at hd; cases hd
        | some d1 =>
          rw [hq, hq2] at hd
          cases hd
          obtain ⟨v, hv, rv⟩ := rs.get hq
          obtain ⟨v2, hv2, rv2⟩ := rs2.get hq2
          have e := y1 xs (SqL.of (q2 _ _ (q1 _ _ hl)))
          rw [hv] at e
          obtain rfl := Option.some.inj e
          have e := y2 ys (SqL.of (q2 _ _ (q1 _ _ hl2)))
          rw [hv2] at e
          obtain rfl := Option.some.inj e
          have st := Step.new (o := .tup [v, v2]) q2 hT
          exact ⟨_, st, .tup (SqT.of upd_same) (.cons (rv.mono (q1.trans st.w)) (.one (rv2.mono (q1.trans st.w))))⟩)
/-! ### for -/
theorem ds_for {sts : List Stmt} {P : DEnds} (hp : PassesOwn (model X.prog X.w) X.A X.env X.xe) (J : Nat → Dl → Mem → Prop)
    (h : DI X Z tg e δ M fun l M1 => J 0 δ M1 ∧ (∀ i d δ M, l[i]? = some d → J i δ M → DG X Z tg d δ M fun δ' M' => DS X Z sts δ' M' { P with nx := J (i + 1), ct := J (i + 1), bk := P.nx }) ∧ ∀ δ M, J l.length δ M → P.nx δ M)
    (hc : X.calm = true := by rfl) (hf : ∀ x, foldedSetIterable e X.env x = pure x := by intro _; rfl) : DS1 X Z (.For tg e sts [] pos) δ M P := fun W σ H A Dn f => by
  refine of_ps (ps_for hp hc pi_w pg_w pss_w hf) ?_
  refine h W σ H A _ fun l M1 W1 H1 It1 A1 s1 wk ⟨j0, hb, hd⟩ => ?_
  refine ⟨fun i m σ' H' => m = l.length - i ∧ i ≤ l.length ∧ ∃ δ' M' W', At X.K Z δ' M' W' σ' H' ∧ Same W1 W' ∧ J i δ' M', ⟨l.length, by simp, Nat.zero_le _, δ, M1, W1, A1, Same.refl _, j0⟩, ?_⟩
  rintro i m σ2 H2 ⟨rfl, hi, δ2, M2, W2, A2, s2, j2⟩
  by_cases hlt : i < l.length
  · refine .inr ⟨wk.go i W2 H2 s2 A2.same hlt, fun σ' H' => i + 1 ≤ l.length ∧ ∃ δ' M' W', At X.K Z δ' M' W' σ' H' ∧ Same W1 W' ∧ J (i + 1) δ' M', fun σ' H' ⟨hi', q⟩ => ⟨l.length - (i + 1), by omega, rfl, hi', q⟩, fun x H3 y => ?_⟩
    obtain ⟨W3, st, rx⟩ := wk.yld i W2 H2 x H3 l[i] s2 A2.same (by simp [hlt]) y
    refine hb i l[i] δ2 M2 (by simp [hlt]) j2 W3 σ2 H3 x (A2.step st) rx _ (fun δ' M' W' σ' H' A' s' q => q W' σ' H' A' _ (f.loop (s1.trans (s2.trans (st.w.trans s'))) fun δ3 M3 W3 σ3 H3 A3 s3 j => ⟨hlt, δ3, M3, W3, A3, s2.trans (st.w.trans (s'.trans s3)), j⟩))
  · have e : i = l.length := by omega
    subst e
    exact .inl ⟨wk.stop _ W2 H2 s2 A2.same (Nat.le_refl _), f.nx δ2 M2 W2 σ2 H2 A2 (s1.trans s2) (hd δ2 M2 j2)⟩
end
/-! ### list comprehensions -/
def wipeD (δ : Dl) : List Nat → Dl
  | [] => δ
  | v :: vs => (wipeD δ vs).set v none
theorem wipeD_length (δ : Dl) : ∀ vs : List Nat, (wipeD δ vs).length = δ.length
  | [] => rfl
  | v :: vs => by unfold wipeD; rw [List.length_set, wipeD_length δ vs]
theorem At.wipe {K : PySem.W.Frag} {Z : Ent} {δ : Dl} {M : Mem} {W : Hp} {σ : St} {H : Hp} (A : At K Z δ M W σ H) : ∀ vs : List Nat, At K Z (wipeD δ vs) M W (L2.wipe σ vs) H
  | [] => A
  | v :: vs => by
    have B := At.wipe A vs
    unfold wipeD L2.wipe
    refine ⟨B.fr, B.same, fun i d e => ?_, by rw [List.length_set, List.length_set]; exact B.len, B.cel⟩
    by_cases q : i = v
    · subst q
      by_cases l : i < (wipeD δ vs).length
      · rw [List.getElem?_set_self l] at e; cases e
      · rw [List.getElem?_eq_none (by rw [List.length_set]; omega)] at e; cases e
    · rw [List.getElem?_set_ne (Ne.symm q)] at e
      obtain ⟨w, h1, h2⟩ := B.env i d e
      exact ⟨w, by rw [List.getElem?_set_ne (Ne.symm q)]; exact h1, h2⟩
/-- behind a turn the names of the def around are as they were -/
structure wPTs (X : Cx) (ifs : List Expr) (σ : St) (H : Hp) (Q : Bool → Hp → Prop) : Prop where
  run : ∀ (pins : List (Addr × Obj)) (s : Shared), Inv X pins σ H s →
  wpAny (model X.prog X.w) X.A (forIn ifs true fun c r => if r = true then do let ok ← isTrue c X.env (eval c X.env); pure (ForInStep.yield ok) else pure (ForInStep.yield r)) (TP X pins σ Q) X.xe s
/-- a clause's tests -/
def DTs (X : Cx) (Z : Ent) (ifs : List Expr) (δ : Dl) (M : Mem) (post : Bool → Mem → Prop) : Prop :=
  ∀ W σ H, At X.K Z δ M W σ H → ∀ Q : Bool → Hp → Prop, (∀ b M' W' H', At X.K Z δ M' W' σ H' → Same W W' → post b M' → Q b H') → wPTs X ifs σ H Q
theorem dts_nil {X : Cx} {Z : Ent} {δ : Dl} {M : Mem} {post : Bool → Mem → Prop} (h : post true M) : DTs X Z [] δ M post := fun W σ H A Q k => ⟨fun pins s I => pts_nil.run pins s σ H Q I (k true M W H A (Same.refl _) h)⟩
theorem dts_one {X : Cx} {Z : Ent} {c : Expr} {δ : Dl} {M : Mem} {post : Bool → Mem → Prop} (h : DT X Z c δ M post) : DTs X Z [c] δ M post := fun W σ H A Q k => ⟨fun pins s I => (pts_one pt_w).run pins s σ H Q I (h W σ H A Q k)⟩
/-- the block of a comprehension -/
abbrev Blk (X : Cx) (scope : Scope) (s : Shared) (H : Hp) (C : Addr) (cl : List (Str × Addr)) (fp : List Addr) : Cx := X.blk s H scope (compEnvC scope cl C X.env) fp
/-- a target of names: one, or a row of them -/
inductive Tgt where
  | nm (i : Nat) | tp (is : List Nat)
def gNames : List Nat → TGs
  | [] => gNil
  | i :: is => gCons (gName i) (gNames is)
def tgG (K : PySem.W.Frag) : Tgt → TG
  | .nm i => gName i
  | .tp is => gTup K is.length (gNames is)
def setsD : Dl → List Nat → List D → Dl
  | δ, i :: is, d :: ds => setsD (δ.set i (some d)) is ds
  | δ, _, _ => δ
def setsV : St → List Nat → List V → St
  | σ, i :: is, v :: vs => setsV (σ.set i (some v)) is vs
  | σ, _, _ => σ
def bindD : Tgt → D → Dl → Option Dl
  | .nm i, d, δ => some (δ.set i (some d))
  | .tp is, .tup ds, δ => if ds.length = is.length then some (setsD δ is ds) else none
  | _, _, _ => none
def Tgt.slots : Tgt → List Nat
  | .nm i => [i]
  | .tp is => is
theorem wipe_set {σ : St} {i : Nat} {x : Option V} : ∀ {vs : List Nat}, i ∈ vs → L2.wipe (σ.set i x) vs = L2.wipe σ vs
  | v :: vs, h => by
    unfold L2.wipe
    by_cases q : i = v
    · subst q
      by_cases m : i ∈ vs
      · rw [wipe_set m]
      · have : ∀ (vs : List Nat), i ∉ vs → L2.wipe (σ.set i x) vs = (L2.wipe σ vs).set i x := fun vs hm => by
          induction vs with
          | nil => rfl
          | cons w ws ih =>
            unfold L2.wipe
            rw [ih (fun z => hm (List.mem_cons_of_mem _ z)), List.set_comm _ _ (fun z => hm (by rw [z]; exact List.mem_cons_self))]
        rw [this vs m, List.set_set]
    · rw [wipe_set ((List.mem_cons.mp h).resolve_left q)]
theorem wipe_sets : ∀ {is : List Nat} {xs : List V} {σ : St} {vs : List Nat}, (∀ i ∈ is, i ∈ vs) → L2.wipe (setsV σ is xs) vs = L2.wipe σ vs
  | [], _, _, _, _ => by unfold setsV; rfl
  | _ :: _, [], _, _, _ => by unfold setsV; rfl
  | i :: is, x :: xs, σ, vs, h => by
    unfold setsV
    rw [wipe_sets fun j hj => h j (List.mem_cons_of_mem _ hj), wipe_set (h i List.mem_cons_self)]
theorem wipe_wipe {σ : St} : ∀ {vs ws : List Nat}, (∀ i ∈ ws, i ∈ vs) → L2.wipe (L2.wipe σ ws) vs = L2.wipe σ vs
  | _, [], _ => rfl
  | vs, w :: ws, h => by
    show L2.wipe ((L2.wipe σ ws).set w none) vs = _
    rw [wipe_set (h w List.mem_cons_self), wipe_wipe fun i hi => h i (List.mem_cons_of_mem _ hi)]
theorem gNames_of : ∀ {is : List Nat} {xs : List V} {σ : St} {H : Hp} {Q : St → Hp → Prop}, xs.length = is.length → Q (setsV σ is xs) H → gNames is xs σ H Q
  | [], [], _, _, _, _, h => ⟨rfl, h⟩
  | i :: is, x :: xs, σ, H, Q, hl, h => ⟨x, xs, rfl, gNames_of (is := is) (by simpa using hl) h⟩
section
variable {K : PySem.W.Frag} {Z : Ent} {δ : Dl} {M : Mem} {W : Hp} {σ : St} {H : Hp}
theorem At.sets : ∀ {is : List Nat} {xs : List V} {ds : List D} {δ : Dl} {σ : St}, At K Z δ M W σ H → Reps K W xs ds → At K Z (setsD δ is ds) M W (setsV σ is xs) H
  | [], _, _, _, _, A, _ => by unfold setsD setsV; exact A
  | _ :: _, _, _, _, _, A, .nil => by unfold setsD setsV; exact A
  | i :: is, _, _, _, _, A, .cons h r => by
    unfold setsD setsV
    exact At.sets (A.setσ h) r
/-- an object that is new since the entry, and changes no more -/
theorem At.promote (a : At K Z δ M W σ H) {p : Addr} {o : HO} (e : H p = some o) (hw : W p = none) (hm : M p = none) (hz : Z.H p = none) : At K Z δ M (upd W p o) σ H ∧ Same W (upd W p o) := by
  have sw : Same W (upd W p o) := fun b u q => by
    have : b ≠ p := fun z => by rw [z, hw] at q; cases q
    rw [upd_ne this]; exact q
  refine ⟨⟨⟨a.fr.w.trans sw, fun x hx => ?_, a.fr.nm, a.fr.un, a.fr.th⟩, fun b u q => ?_, fun i d q => let ⟨v, q1, q2⟩ := a.env i d q; ⟨v, q1, q2.mono sw⟩, a.len, fun x u q => ?_⟩, sw⟩
  · by_cases q : x = p
    · exact .inr (q ▸ hz)
    · rw [upd_ne q] at hx; exact a.fr.nw x hx
  · by_cases z : b = p
    · rw [z, upd_same] at q; rw [z, e]; exact q
    · rw [upd_ne z] at q; exact a.same _ _ q
  · have : x ≠ p := fun z => by rw [z, hm] at q; cases q
    obtain ⟨q1, ho, q2, q3⟩ := a.cel x u q
    exact ⟨by rw [upd_ne this]; exact q1, ho, q2, q3.mono sw⟩
/-- an object that no one tracks for the entry is written -/
theorem Fr.poke {W0 : Hp} {M0 : Mem} {H0 : Hp} (f : Fr W0 M0 H0 W M H) {p : Addr} {o : HO} (h : H0 p = none) : Fr W0 M0 H0 W M (upd H p o) :=
  ⟨f.w, f.nw, f.nm, fun a u e hm => by
    have : a ≠ p := fun z => by rw [z, h] at e; cases e
    rw [upd_ne this]; exact f.un a u e hm, fun a ha => by
    have : a ≠ p := fun z => ha (z ▸ h)
    rw [upd_ne this]; exact f.th a ha⟩
end
theorem tgG_of {K : PySem.W.Frag} {t : Tgt} {d : D} {δ δ' : Dl} {Z : Ent} {M : Mem} {W H : Hp} {σ : St} {x : V} {vs : List Nat} {Q : St → Hp → Prop} (hb : bindD t d δ = some δ') (A : At K Z δ M W σ H) (r : Rep K W x d) (hv : ∀ i ∈ t.slots, i ∈ vs)
    (q : ∀ σ', At K Z δ' M W σ' H → L2.wipe σ' vs = L2.wipe σ vs → Q σ' H) : tgG K t x σ H Q := by
  cases t with
  | nm i =>
    have e := Option.some.inj hb
    subst e
    exact q _ (A.setσ r) (wipe_set (hv i List.mem_cons_self))
  | tp is =>
    cases d with
    | tup ds =>
      have hb' : (if ds.length = is.length then some (setsD δ is ds) else none) = some δ' := hb
      by_cases hl : ds.length = is.length
      · rw [if_pos hl] at hb'
        have e := Option.some.inj hb'
        subst e
        obtain ⟨a, xs, ev, hs, rs⟩ := r.tup_inv
        subst ev
        exact ⟨a, xs, rfl, sqT_same A.same hs, by rw [rs.length, hl], gNames_of (by rw [rs.length, hl]) (q _ (A.sets rs) (wipe_sets hv))⟩
      · rw [if_neg hl] at hb'
        cases hb'
    | _ => cases hb
section
variable {X : Cx} {Z : Ent} {elt iter tg : Expr} {ifs : List Expr} {scope : Scope} {own : List (Str × Nat)} {δ : Dl} {M : Mem} {pos : Pos} {t : Tgt}
def ttR (X : Cx) (scope : Scope) (ifs : List Expr) : TT := fun σ H Q => ∀ s H0 C cl fp, wPTs (Blk X scope s H0 C cl fp) ifs σ H Q
def teR (X : Cx) (scope : Scope) (elt : Expr) : TE := fun σ H Q => ∀ s H0 C cl fp, wE (Blk X scope s H0 C cl fp) elt σ H Q
/-- the reading of a list comprehension: J i acc M behind i turns -/
def LcOk (X : Cx) (t : Tgt) (scope : Scope) (vs : List Nat) (ifs : List Expr) (elt : Expr) (δ : Dl) (post : DK) (l : List D) (M1 : Mem) : Prop :=
  ∃ J : Nat → List D → Mem → Prop, J 0 [] M1 ∧ (∀ i acc d M, l[i]? = some d → J i acc M → ∃ δ', bindD t d (wipeD δ vs) = some δ' ∧ ∀ Z' s H0 C cl fp,
    DTs (Blk X scope s H0 C cl fp) Z' ifs δ' M fun b M2 => if b = true then ∀ s H0 C cl fp, DE (Blk X scope s H0 C cl fp) Z' elt δ' M2 fun y M3 => J (i + 1) (acc ++ [y]) M3 else J (i + 1) acc M2) ∧ l.length ≤ sizeLine ∧ ∀ acc M, J l.length acc M → post (.lst acc) M
theorem lc_core' {vs : List Nat} {post : DK} {W : Hp} {σ : St} {H : Hp} {Q : VK} (hv : ∀ i ∈ t.slots, i ∈ vs) (A : At X.K Z δ M W σ H) (h : DI X Z tg iter δ M (LcOk X t scope vs ifs elt δ post))
    (k : ∀ v d M' W' H', At X.K Z δ M' W' σ H' → Same W W' → Rep X.K W' v d → post d M' → Q v H') : tLc (wI X tg iter) (tgG X.K t) (ttR X scope ifs) (teR X scope elt) vs σ H Q := by
  refine h W σ H A _ fun l M1 W1 H1 It1 A1 s1 wk ⟨J, j0, hb, hz, hd⟩ => ?_
  intro Dl hDl
  have zD : Z.H Dl = none := A1.fr.back hDl
  have pk : ∀ {M' : Mem} {W' H' : Hp} {o : HO}, At X.K Z δ M' W' σ H' → W' Dl = none → M' Dl = none → At X.K Z δ M' W' σ (upd H' Dl o) := fun {M' W' H' o} a hw hm =>
    ⟨a.fr.poke zD, fun b u e => by
      have : b ≠ Dl := fun z => by rw [z, hw] at e; cases e
      rw [upd_ne this]; exact a.same _ _ e, a.env, a.len, fun b u e => by
      have : b ≠ Dl := fun z => by rw [z, hm] at e; cases e
      obtain ⟨q1, ho, q2, q3⟩ := a.cel b u e
      exact ⟨q1, ho, by rw [upd_ne this]; exact q2, q3⟩⟩
  refine ⟨fun i m H' => m = l.length - i ∧ i ≤ l.length ∧ ∃ acc xs M' W', At X.K Z δ M' W' σ H' ∧ Same W1 W' ∧ H' Dl = some (.lst xs) ∧ Reps X.K W' xs acc ∧ W' Dl = none ∧ M' Dl = none ∧ acc.length ≤ i ∧ J i acc M',
    ⟨l.length, by simp, Nat.zero_le _, [], [], M1, W1, pk A1 (A1.same.free hDl) (A1.mfresh hDl), Same.refl _, upd_same, .nil, A1.same.free hDl, A1.mfresh hDl, Nat.le_refl _, j0⟩, ?_⟩
  rintro i m H2 ⟨rfl, hi, acc, xs, M2, W2, A2, s2, hD2, rs, w2, m2, la, j2⟩
  by_cases hlt : i < l.length
  · refine .inr ⟨wk.go i W2 H2 s2 A2.same hlt, _, fun _ hN => ⟨l.length - (i + 1), by omega, rfl, hN⟩, fun x H3 y => ?_⟩
    obtain ⟨W3, st, rx⟩ := wk.yld i W2 H2 x H3 l[i] s2 A2.same (by simp [hlt]) y
    obtain ⟨δ', hbd, hel⟩ := hb i acc l[i] M2 (by simp [hlt]) j2
    have A3 := A2.step st
    have hD3 := st.h _ _ hD2
    have w3 : W3 Dl = none := by
      cases q : W3 Dl with
      | none => rfl
      | some u =>
        rcases st.nw Dl (by rw [q]; exact fun z => nomatch z) with z | z
        · exact absurd w2 z
        · rw [hD2] at z; cases z
    have AZ : At X.K ⟨W3, M2, H3⟩ (wipeD δ vs) M2 W3 (L2.wipe σ vs) H3 := ⟨Fr.refl, (A3.wipe vs).same, (A3.wipe vs).env, (A3.wipe vs).len, (A3.wipe vs).cel⟩
    refine tgG_of hbd AZ rx hv fun σ' A' hwp => ⟨by rw [hwp, wipe_wipe fun i hi => hi], fun s H0 C cl fp => ?_⟩
    refine hel _ s H0 C cl fp W3 σ' H3 A' _ fun b M4 W4 H4 A4 s4 hp4 => ?_
    have frame : ∀ {M5 : Mem} {W5 H5 : Hp}, At X.K ⟨W3, M2, H3⟩ δ' M5 W5 σ' H5 → At X.K Z δ M5 W5 σ H5 ∧ H5 Dl = some (.lst xs) ∧ W5 Dl = none ∧ M5 Dl = none := fun {M5 W5 H5} a => by
      have f5 := A3.fr.trans a.fr
      refine ⟨⟨f5, a.same, fun i d e => let ⟨v, q1, q2⟩ := A3.env i d e; ⟨v, q1, q2.mono a.fr.w⟩, A3.len, a.cel⟩, a.fr.un _ _ hD3 m2, ?_, a.fr.mnone hD3 m2⟩
      cases q : W5 Dl with
      | none => rfl
      | some u =>
        rcases a.fr.nw Dl (by rw [q]; exact fun z => nomatch z) with z | z
        · exact absurd w3 z
        · rw [show H3 Dl = none from z] at hD3; cases hD3
    cases b with
    | true =>
      rw [if_pos rfl] at hp4 ⊢
      intro s' H0' C' cl' fp'
      refine hp4 s' H0' C' cl' fp' W4 σ' H4 A4 _ fun v y M5 W5 H5 A5 s5 r5 hp5 => ?_
      obtain ⟨B, q1, q2, q3⟩ := frame A5
      have lx := rs.length
      refine ⟨xs, q1, by omega, hlt, acc ++ [y], xs ++ [v], M5, W5, pk B q2 q3, s2.trans (st.w.trans (s4.trans s5)), upd_same, (rs.mono (st.w.trans (s4.trans s5))).append (.one r5), q2, q3, ?_, hp5⟩
      rw [List.length_append, List.length_singleton]
      omega
    | false =>
      rw [if_neg Bool.false_ne_true] at hp4 ⊢
      obtain ⟨B, q1, q2, q3⟩ := frame A4
      exact ⟨hlt, acc, xs, M4, W4, B, s2.trans (st.w.trans s4), q1, rs.mono (st.w.trans s4), q2, q3, by omega, hp4⟩
  · have e : i = l.length := by omega
    subst e
    refine .inl ⟨wk.stop _ W2 H2 s2 A2.same (Nat.le_refl _), ?_⟩
    obtain ⟨B, sw⟩ := A2.promote hD2 w2 m2 zD
    exact k _ _ M2 _ H2 B (s1.trans (s2.trans sw)) (.lst upd_same (rs.mono sw)) (hd acc M2 j2)
/-- [elt for tg in iter if ..] -/
theorem de_lc {post : DK} (own : List (Str × Nat)) (t : Tgt) (h : DI X Z tg iter δ M (LcOk X t scope (own.map (·.2)) ifs elt δ post)) (hN : X.N.Nodup) (ok : BlkOk X.N X.env.scope scope own)
    (hg : ∀ (s : Shared) (H : Hp) (C : Addr) (cl : List (Str × Addr)) (fp : List Addr), PG (Blk X scope s H C cl fp) tg (tgG X.K t)) (hv : ∀ i ∈ t.slots, i ∈ own.map (·.2) := by decide) (hc : X.calm = true := by rfl) (hs : ∀ x, foldedSetIterable iter X.env x = pure x := by intro _; rfl) :
    DE X Z (.ListComp elt [⟨tg, iter, ifs, 0⟩] scope pos) δ M post := fun W σ H A Q k =>
  of_pe (pe_lc hc hN pi_w ok hg (fun s H0 C cl fp => ⟨fun pins s' σ H Q I h => (h s H0 C cl fp).run pins s' I⟩) (fun s H0 C cl fp => ⟨fun pins s' σ H Q I h => (h s H0 C cl fp).run pins s' I⟩) hs) (lc_core' hv A h k)
/-- y = [elt for tg in iter if ..] on one line, y a local -/
theorem ds_setLc {P : DEnds} {y : Str} {py spos : Pos} (own : List (Str × Nat)) (t : Tgt) (j : Nat) (h : DI X Z tg iter δ M (LcOk X t scope (own.map (·.2)) ifs elt δ fun d M1 => P.nx (δ.set j (some d)) M1)) (hN : X.N.Nodup) (ok : BlkOk X.N X.env.scope scope own)
    (hg : ∀ (s : Shared) (H : Hp) (C : Addr) (cl : List (Str × Addr)) (fp : List Addr), PG (Blk X scope s H C cl fp) tg (tgG X.K t))
    (hsw : swapsWith (.ListComp elt [⟨tg, iter, ifs, 0⟩] scope pos) (some (.Name y py)) spos.line X.env = pure true)
    (hy : X.N[j]? = some y := by rfl) (hyl : X.env.scope.names.lookup y = some .local := by rfl) (hv : ∀ i ∈ t.slots, i ∈ own.map (·.2) := by decide) (hc : X.calm = true := by rfl) (hs : ∀ x, foldedSetIterable iter X.env x = pure x := by intro _; rfl) :
    DS1 X Z (.Assign [.Name y py] (.ListComp elt [⟨tg, iter, ifs, 0⟩] scope pos) spos) δ M P := fun W σ H A Dn f =>
  of_ps (ps_setLc hc hN hy hyl hsw pi_w ok hg (fun s H0 C cl fp => ⟨fun pins s' σ H Q I h => (h s H0 C cl fp).run pins s' I⟩) (fun s H0 C cl fp => ⟨fun pins s' σ H Q I h => (h s H0 C cl fp).run pins s' I⟩) hs)
    (lc_core' hv A h fun v d M' W' H' A' s r p => f.nx _ M' W' _ H' (A'.setσ r) s p)
end
end DL
namespace DL
open PySem L2
/-! ### exceptions -/
/-- an exception's own dict, by its fields -/
def XRp (K : PySem.W.Frag) (W H : Hp) (od : Option Addr) (ns : List Str) (es : List D) : Prop :=
  (od = none ∧ ns = [] ∧ es = []) ∨ ∃ d xs, od = some d ∧ H d = some (.xd (ns.zip xs)) ∧ ns.length = xs.length ∧ Reps K W xs es
/-- what is wanted of an exception: its class, its fields, the names' data, the store -/
abbrev DXW := Addr → List Str → List D → Dl → Mem → Prop
abbrev DXK := Addr → List Str → List D → Mem → Prop
/-- an exception of which w holds is taken -/
def XT (X : Cx) (Z : Ent) (w : DXW) : Prop :=
  ∃ Wx : WX, Takes X Wx ∧ ∀ C od ns es δ M W σ H, At X.K Z δ M W σ H → XRp X.K W H od ns es → w C ns es δ M → Wx (.ref C) od σ H
theorem XT.none {X : Cx} {Z : Ent} : XT X Z (fun _ _ _ _ _ => False) := ⟨fun _ _ _ _ => False, takes0, fun _ _ _ _ _ _ _ _ _ _ _ z => z⟩
theorem XT.imp {X : Cx} {Z : Ent} {w w' : DXW} (x : XT X Z w) (h : ∀ C ns es δ M, w' C ns es δ M → w C ns es δ M) : XT X Z w' :=
  let ⟨Wx, tk, k⟩ := x; ⟨Wx, tk, fun C od ns es δ M W σ H a r q => k C od ns es δ M W σ H a r (h _ _ _ _ _ q)⟩
/-! ### what a def promises, by data -/
abbrev DSp := List D → Mem → DK → DXK → Prop
def spOf (K : PySem.W.Frag) (S : DSp) : Sp := fun vs H Q E => ∃ ds W M post xp, Same W H ∧ MOk K M W H ∧ Reps K W vs ds ∧ S ds M post xp ∧
  (∀ v d W' M' H', Fr W M H W' M' H' → Same W' H' → MOk K M' W' H' → Rep K W' v d → post d M' → Q v H') ∧
  (∀ C od ns es W' M' H', Fr W M H W' M' H' → Same W' H' → MOk K M' W' H' → XRp K W' H' od ns es → xp C ns es M' → E (.ref C) od H')
/-- the def at f keeps S, called with positional values -/
abbrev FnD (P : Program) (w : World) (K : PySem.W.Frag) (mg : Str → Option Value) (base : Heap) (k : Nat) (f : Addr) (S : DSp) : Prop := FnR P w K mg base (L2.CX P w) k f (spOf K S)
abbrev bodyX (P : Program) (w : World) (K : PySem.W.Frag) (mg : Str → Option Value) (base : Heap) (N : List Str) (qual : Str) (scope : Scope) (f : Addr) (cdv : Value) (A : Around) (outer : List Env) (s : Shared) (H : Hp) (E : XK) : Cx := cxOf (L2.CX P w) P w K mg base N qual scope f cdv A outer s H E
section
variable {P : Program} {w : World} {K : PySem.W.Frag} {mg : Str → Option Value} {base : Heap} {j k : Nat} {f : Addr} {S S' : DSp}
theorem FnD.imp (F : FnD P w K mg base k f S) (h : ∀ ds M post xp, S' ds M post xp → S ds M post xp) : FnD P w K mg base k f S' :=
  FnR.imp F fun vs H Q E ⟨ds, W, M, post, xp, h1, h2, h3, h4, h5⟩ => ⟨ds, W, M, post, xp, h1, h2, h3, h _ _ _ _ h4, h5⟩
theorem start_at {N : List Str} {vs : List V} {ds : List D} {W H : Hp} {M : Mem} (h1 : Same W H) (h2 : MOk K M W H) (r : Reps K W vs ds) (hl : ds.length ≤ N.length) :
    At K ⟨W, M, H⟩ (ds.map some ++ List.replicate (N.length - ds.length) none) M W (L2.start N vs) H := by
  refine ⟨Fr.refl, h1, fun i d e => ?_, ?_, h2⟩
  · by_cases hi : i < ds.length
    · rw [List.getElem?_append_left (by simpa using hi), List.getElem?_map] at e
      cases q : ds[i]? with
      | none => rw [q] at e; cases e
      | some d0 =>
        rw [q] at e
        cases e
        obtain ⟨v, hv, rv⟩ := r.get q
        refine ⟨v, ?_, rv⟩
        unfold L2.start
        rw [List.getElem?_append_left (by rw [List.length_map, r.length]; exact hi), List.getElem?_map, hv]
        rfl
    · rw [List.getElem?_append_right (by simpa using hi), List.getElem?_replicate] at e
      split at e <;> cases e
  · unfold L2.start
    rw [List.length_append, List.length_append, List.length_map, List.length_map, List.length_replicate, List.length_replicate, r.length]
/-- THE RULE for a def: by its body -/
theorem fnD_of {x qual : Str} {st : Stmt} {fd : FuncData} {N ps : List Str} {k : Nat} (F : Fun K x qual st f fd) (Sc : FnScope N ps (defScope st)) (len : ∀ ds M post xp, S ds M post xp → ds.length = ps.length)
    (body : ∀ (cdv : Value) (A : Around) (outer : List Env) (s : Shared) (H : Hp) (E : XK) (Z : Ent) (ds : List D) (M : Mem) (post : DK) (xp : DXK), Room k (A.deeper (PyProof.Rows.envOfC qual (defScope st) s.heap.objs.size f cdv)) → S ds M post xp → Z.M = M →
      XT (bodyX P w K mg base N qual (defScope st) f cdv A outer s H E) Z (fun C ns es _ M => xp C ns es M) →
      PassesOwn (model P w) (bodyX P w K mg base N qual (defScope st) f cdv A outer s H E).A (bodyX P w K mg base N qual (defScope st) f cdv A outer s H E).env (bodyX P w K mg base N qual (defScope st) f cdv A outer s H E).xe →
      DS (bodyX P w K mg base N qual (defScope st) f cdv A outer s H E) Z (defBody st) (ds.map some ++ List.replicate (N.length - ds.length) none) M { nx := fun _ M' => post .non M', rt := post }) :
    FnOk P w K mg base (L2.CX P w) (k + 1) f fd ps (spOf K S) := by
  have hpl : ps.length ≤ N.length := by have := congrArg List.length Sc.pre; rw [List.length_take] at this; omega
  refine F.okX Sc (fun vs H Q E h => ?_) fun cdv A outer s H vs Q E hr h => ?_
  · obtain ⟨ds, W, M, post, xp, _, _, r, hs, _⟩ := h
    rw [r.length]
    exact len _ _ _ _ hs
  · obtain ⟨ds, W, M, post, xp, h1, h2, r, hs, hq, hx⟩ := h
    refine ⟨wSs _ _, pss_w, ?_⟩
    have hl := len _ _ _ _ hs
    refine body cdv A outer s H E ⟨W, M, H⟩ ds M post xp hr hs rfl ⟨fun cls d _ H => E cls d H, takes_of rfl rfl rfl rfl, fun C od ns es δ M' W' σ H' a r q => hx C od ns es W' M' H' a.fr a.same a.cel r q⟩ (passes_of rfl) W (L2.start N vs) H (start_at h1 h2 r (by rw [hl]; exact hpl)) _
      ⟨fun δ M' W' σ H' a _ q => hq .non .non W' M' H' a.fr a.same a.cel .non q, fun v d δ M' W' σ H' a _ r q => hq v d W' M' H' a.fr a.same a.cel r q, fun _ _ _ _ _ _ _ z => z, fun _ _ _ _ _ _ _ z => z⟩
/-- the same for a def with defaults -/
theorem fnD_ofD {x qual : Str} {st : Stmt} {fd : FuncData} {N ps : List Str} {k : Nat} {dvs : List V} {kws : List (Str × V)} (F : FunD K x qual (defArgs st) (defBody st) (defScope st) dvs kws f fd) (Sc : FnScope N ps (defScope st)) (len : ∀ ds M post xp, S ds M post xp → ds.length = ps.length)
    (body : ∀ (cdv : Value) (A : Around) (outer : List Env) (s : Shared) (H : Hp) (E : XK) (Z : Ent) (ds : List D) (M : Mem) (post : DK) (xp : DXK), Room k (A.deeper (PyProof.Rows.envOfC qual (defScope st) s.heap.objs.size f cdv)) → S ds M post xp → Z.M = M →
      XT (bodyX P w K mg base N qual (defScope st) f cdv A outer s H E) Z (fun C ns es _ M => xp C ns es M) →
      PassesOwn (model P w) (bodyX P w K mg base N qual (defScope st) f cdv A outer s H E).A (bodyX P w K mg base N qual (defScope st) f cdv A outer s H E).env (bodyX P w K mg base N qual (defScope st) f cdv A outer s H E).xe →
      DS (bodyX P w K mg base N qual (defScope st) f cdv A outer s H E) Z (defBody st) (ds.map some ++ List.replicate (N.length - ds.length) none) M { nx := fun _ M' => post .non M', rt := post }) :
    FnOk P w K mg base (L2.CX P w) (k + 1) f fd ps (spOf K S) := by
  have hpl : ps.length ≤ N.length := by have := congrArg List.length Sc.pre; rw [List.length_take] at this; omega
  refine FunD.ok (CX := L2.CX P w) F Sc (fun vs H Q E h => ?_) fun cdv A outer s H vs Q E hr h => ?_
  · obtain ⟨ds, W, M, post, xp, _, _, r, hs, _⟩ := h
    rw [r.length]
    exact len _ _ _ _ hs
  · obtain ⟨ds, W, M, post, xp, h1, h2, r, hs, hq, hx⟩ := h
    refine ⟨wSs _ _, pss_w, ?_⟩
    have hl := len _ _ _ _ hs
    refine body cdv A outer s H E ⟨W, M, H⟩ ds M post xp hr hs rfl ⟨fun cls d _ H => E cls d H, takes_of rfl rfl rfl rfl, fun C od ns es δ M' W' σ H' a r q => hx C od ns es W' M' H' a.fr a.same a.cel r q⟩ (passes_of rfl) W (L2.start N vs) H (start_at h1 h2 r (by rw [hl]; exact hpl)) _
      ⟨fun δ M' W' σ H' a _ q => hq .non .non W' M' H' a.fr a.same a.cel .non q, fun v d δ M' W' σ H' a _ r q => hq v d W' M' H' a.fr a.same a.cel r q, fun _ _ _ _ _ _ _ z => z, fun _ _ _ _ _ _ _ z => z⟩
/-- called with every parameter, or with the last ones left to their defaults -/
theorem fnD_raw {fd : FuncData} {ps : List Str} {dvs : List V} {ds : List Value} {dds : List D} (F : FnOk P w K mg base (L2.CX P w) k f fd ps (spOf K S)) (hb : Binds K fd ps ds) (hd : Vals dvs ds) (rd : ∀ W, Reps K W dvs dds) : FnD P w K mg base k f (fun es M post xp => S (es ++ dds) M post xp) :=
  FnR.imp (F.raw hb hd) fun vs H Q E ⟨ds, W, M, post, xp, h1, h2, r, hs, hq⟩ => ⟨ds ++ dds, W, M, post, xp, h1, h2, r.append (rd W), hs, hq⟩
theorem fnD_all {fd : FuncData} {ps : List Str} (F : FnOk P w K mg base (L2.CX P w) k f fd ps (spOf K S)) (hb : Binds K fd ps []) : FnD P w K mg base k f S := by
  have h := fnD_raw (dvs := []) (dds := []) F hb .nil (fun _ => .nil)
  simpa only [List.append_nil] using h
end
/-! ### calls -/
section
variable {X : Cx} {CX : CXT} {k : Nat} {f C : Addr} {sp : Sp} {E : St → XK} {x m : Str} {p pos apos : Pos} {e o : Expr} {es : List Expr} {ta : TE} {t : TA}
theorem run_fnRS {pins : List (Addr × Obj)} {σ : St} {H : Hp} {s : Shared} {Q : VK} {us : List Value} {vs : List V} (F : FnR X.prog X.w X.K X.mg X.base CX k f sp) (hr : Room k X.A) (hx : PassesAt CX X σ (E σ)) (I : Inv X pins σ H s) (r : Vals vs us) (h : sp vs H Q (E σ)) :
    codeAny (model X.prog X.w) X.A (.call (.ref f) ⟨us, []⟩) (fun r s' => match r with | .ok (.ret v) => EP X pins σ Q v s' | .ok _ => False | .error e => X.xe e s') s := by
  refine codeAny_mono (F X.A X.stack s H us vs Q (E σ) hr I.env0 r h) fun r s' hq => ?_
  cases r with
  | error e => exact hx pins H s e s' I hq
  | ok fl =>
    cases fl with
    | ret u => exact I.after hq
    | next => exact False.elim hq
    | brk => exact False.elim hq
    | cont => exact False.elim hq
theorem pe_callRS (F : FnR X.prog X.w X.K X.mg X.base CX k f sp) (hr : Room k X.A) (hg : Gl X x) (hm : X.mg x = some (.ref f)) (hk : PySem.W.keepIn X.K (.ref f) = true) (hx : ∀ σ, PassesAt CX X σ (E σ)) (ha : PA X (e :: es) t)
    (hdb : (x == ("__debug__" : Str)) = false := by decide) (he : starEach (e :: es) X.env = (false, eval e X.env) :: starEach es X.env := by rfl) (hpl : (backTo pos (starEach es X.env)).any (·.1) = false := by rfl) : PE X (.Call (.Name x p) (e :: es) [] pos) (tCallS sp E t) := by
  refine ⟨fun pins s σ H Q I h => ?_⟩
  refine wpAny_Call_Name_kw (ld_glob I hg hm ?_ hdb)
  refine PySem.W.callWith_K (h₀ := X.base) I.ok.mod.kin hk (thn (ha.run pos pins s σ H _ I h) fun us s1 ⟨vs, H1, I1, r, q⟩ => ⟨I1.kIn, ?_⟩) he hpl
  exact wpAny_call (run_fnRS F hr (hx σ) I1 r q)
theorem pe_callRS0 (F : FnR X.prog X.w X.K X.mg X.base CX k f sp) (hr : Room k X.A) (hg : Gl X x) (hm : X.mg x = some (.ref f)) (hk : PySem.W.keepIn X.K (.ref f) = true) (hx : ∀ σ, PassesAt CX X σ (E σ)) (hdb : (x == ("__debug__" : Str)) = false := by decide) :
    PE X (.Call (.Name x p) [] [] pos) (tCallS sp E tNil) := by
  refine ⟨fun pins s σ H Q I h => ?_⟩
  refine wpAny_Call_Name_kw (ld_glob I hg hm ?_ hdb)
  exact PySem.W.callWith_K0 I.kIn hk (wpAny_call (run_fnRS F hr (hx σ) I .nil h))
end
section
variable {X : Cx} {Z : Ent} {e o : Expr} {es : List Expr} {δ : Dl} {M : Mem} {post : DK} {pos p : Pos} {k : Nat} {f : Addr} {S : DSp} {x : Str} {w : DXW}
theorem call_data {vs : List V} {ds : List D} {M1 : Mem} {W W1 : Hp} {σ : St} {H1 : Hp} {Wx : WX} {Q : VK} (A1 : At X.K Z δ M1 W1 σ H1) (s1 : Same W W1) (r1 : Reps X.K W1 vs ds) (hS : S ds M1 post (fun C ns es M' => w C ns es δ M'))
    (xt : ∀ C od ns es δ M W σ H, At X.K Z δ M W σ H → XRp X.K W H od ns es → w C ns es δ M → Wx (.ref C) od σ H) (q : ∀ v d M' W' H', At X.K Z δ M' W' σ H' → Same W W' → Rep X.K W' v d → post d M' → Q v H') : spOf X.K S vs H1 Q (WE Wx σ) := by
  have back : ∀ {W' : Hp} {M' : Mem} {H' : Hp}, Fr W1 M1 H1 W' M' H' → Same W' H' → MOk X.K M' W' H' → At X.K Z δ M' W' σ H' := fun {W' M' H'} f sm mo => ⟨A1.fr.trans f, sm, fun i d e => let ⟨v, q1, q2⟩ := A1.env i d e; ⟨v, q1, q2.mono f.w⟩, A1.len, mo⟩
  exact ⟨ds, W1, M1, post, _, A1.same, A1.cel, r1, hS, fun v d W' M' H' f sm mo r hp => q v d M' W' H' (back f sm mo) (s1.trans f.w) r hp, fun C od ns es W' M' H' f sm mo r hp => xt C od ns es δ M' W' σ H' (back f sm mo) r hp⟩
/-- f(e, ..), a def of the module -/
theorem de_call (F : FnD X.prog X.w X.K X.mg X.base k f S) (hr : Room k X.A) (hm : X.mg x = some (.ref f)) (hk : PySem.W.keepIn X.K (.ref f) = true) (xt : XT X Z w) (h : DA X Z (e :: es) δ M fun ds M1 => S ds M1 post (fun C ns es M' => w C ns es δ M')) (hg : Gl X x := by rfl)
    (hdb : (x == ("__debug__" : Str)) = false := by decide) (he : starEach (e :: es) X.env = (false, eval e X.env) :: starEach es X.env := by rfl) (hpl : (backTo pos (starEach es X.env)).any (·.1) = false := by rfl) : DE X Z (.Call (.Name x p) (e :: es) [] pos) δ M post := fun W σ H A Q q => by
  obtain ⟨Wx, tk, xk⟩ := xt
  exact of_pe (pe_callRS F hr hg hm hk (fun σ => passAt tk σ) pa_w hdb he hpl) (h W σ H A _ fun vs ds M1 W1 H1 A1 s1 r1 hS => call_data A1 s1 r1 hS xk q)
theorem de_call0 (F : FnD X.prog X.w X.K X.mg X.base k f S) (hr : Room k X.A) (hm : X.mg x = some (.ref f)) (hk : PySem.W.keepIn X.K (.ref f) = true) (xt : XT X Z w) (h : S [] M post (fun C ns es M' => w C ns es δ M')) (hg : Gl X x := by rfl)
    (hdb : (x == ("__debug__" : Str)) = false := by decide) : DE X Z (.Call (.Name x p) [] [] pos) δ M post := fun W σ H A Q q => by
  obtain ⟨Wx, tk, xk⟩ := xt
  exact of_pe (pe_callRS0 F hr hg hm hk (fun σ => passAt tk σ) hdb) (call_data A (Same.refl _) .nil h xk q)
end
/-! ### raise, try -/
section
variable {X : Cx} {Z : Ent} {e : Expr} {es : List Expr} {body suite : List Stmt} {δ : Dl} {M : Mem} {P : DEnds} {pos pos' np : Pos} {x : Str} {w : DXW}
/-- raise X('..'), an own class without __init__ -/
theorem ds_raise {C : Addr} {m : Str} {j : Nat} {p p2 cpos : Pos} {B newId initId : String} {bmB : List Value} (xt : XT X Z w) (F : ExcBaseFacts B newId initId bmB) (q : PySem.W.excIn X.K C bmB newId = true) (gC : X.mg x = some (.ref C)) (kC : PySem.W.keepIn X.K (.ref C) = true)
    (h1 : PySem.W.subIn X.K (.ref C) (.type "BaseException") = some true) (h2 : PySem.W.typeIn X.K (.ref C) = some (.type "type")) (h : w C [] [] δ M) (hc : X.calm = true := by rfl) (hg : Gl X x := by rfl) (hdb : (x == ("__debug__" : Str)) = false := by decide) :
    DS1 X Z (.Raise (some (.Call (.Name x p) [.Constant (.str m) j p2] [] cpos)) none pos) δ M P := fun W σ H A Dn f => by
  obtain ⟨Wx, tk, xk⟩ := xt
  exact of_ps (ps_raise hc tk (pmk_own F q gC kC (raises_own h1 h2) hg hdb)) (xk C none [] [] δ M W σ H A (.inl ⟨rfl, rfl, rfl⟩) h)
/-- the context of a try's body -/
abbrev TrX (X : Cx) (pn : List (Addr × Obj)) (xe : Value → Shared → Prop) : Cx := X.tr pn xe
abbrev SuX (X : Cx) (a : Addr) (pn : List (Addr × Obj)) : Cx := X.suite a pn
theorem At.cx {K : PySem.W.Frag} {Z : Ent} {δ : Dl} {M : Mem} {W : Hp} {σ : St} {H : Hp} (A : At K Z δ M W σ H) : At K Z δ M W σ H := A
/-- the clauses, one after the other -/
def DXs (X : Cx) (Z : Ent) (w : DXW) (P : DEnds) : List (Value × List Stmt) → DXW
  | [] => w
  | (c, su) :: r => fun C ns es δ M => ∃ b, PySem.W.exmOne X.K (.ref C) c = some b ∧ (b = true → ∀ (a : Addr) (oe : Obj) (pn : List (Addr × Obj)), DS (SuX X a ((a, oe) :: pn)) Z su δ M P) ∧ (b = false → DXs X Z w P r C ns es δ M)
inductive DHds (X : Cx) : List ExceptHandler → List (Value × List Stmt) → Prop
  | nil : DHds X [] []
  | cons {x : Str} {c : Value} {b0 : Stmt} {suite : List Stmt} {np pos' : Pos} {hds : List ExceptHandler} {l : List (Value × List Stmt)} (hc : Names X x c) (r : DHds X hds l) : DHds X (.ExceptHandler (some (.Name x np)) none (b0 :: suite) pos' :: hds) ((c, b0 :: suite) :: l)
def suR (X : Cx) (su : List Stmt) : Addr → Value → Option Addr → TS := fun a cls d D σ H => ∀ (oe : Obj) (pn : List (Addr × Obj)), Zc cls d oe → (∃ vs, oe.data = .fields vs) → wSs (SuX X a ((a, oe) :: pn)) su D σ H
theorem Fits.rebase {K : PySem.W.Frag} {W : Hp} {σ : St} {H : Hp} {Dn : Ends} (A : At K Z δ M W σ H) (f : Fits K Z W P Dn) : Fits K ⟨W, M, H⟩ W P Dn :=
  have t : ∀ {δ' : Dl} {M' : Mem} {W' : Hp} {σ' : St} {H' : Hp}, At K ⟨W, M, H⟩ δ' M' W' σ' H' → At K Z δ' M' W' σ' H' := fun a => ⟨A.fr.trans a.fr, a.same, a.env, a.len, a.cel⟩
  ⟨fun δ M W' σ H a s q => f.nx δ M W' σ H (t a) s q, fun v d δ M W' σ H a s r q => f.rt v d δ M W' σ H (t a) s r q, fun δ M W' σ H a s q => f.bk δ M W' σ H (t a) s q, fun δ M W' σ H a s q => f.ct δ M W' σ H (t a) s q⟩
theorem DHds.ok {hds : List ExceptHandler} {l : List (Value × List Stmt)} (h : DHds X hds l) : HdsOk X hds (l.map fun p => (p.1, suR X p.2)) := by
  induction h with
  | nil => exact .nil
  | cons hc r ih => exact .cons hc (fun a oe cls d pn hz hf => ⟨fun pins s σ H D I q => (q oe pn hz hf).run pins s I⟩) ih
theorem ds_try {h0 : ExceptHandler} {hds : List ExceptHandler} {l : List (Value × List Stmt)} (xt : XT X Z w) (hh : DHds X (h0 :: hds) l)
    (hb : ∀ (Z' : Ent) (pn : List (Addr × Obj)) (xe : Value → Shared → Prop), XT (TrX X pn xe) Z' (DXs X Z w P l) → PassesOwn (model X.prog X.w) X.A X.env xe → DS (TrX X pn xe) Z' body δ M P) (hs : X.stack = X.env :: X.outer := by rfl) (hf : X.env.frame = some X.env.locals := by rfl) :
    DS1 X Z (.Try body (h0 :: hds) [] [] pos) δ M P := fun W σ H A Dn f => by
  obtain ⟨Wx, tk, xk⟩ := xt
  refine of_ps (ps_try_many (tb := fun W D σ H => ∀ (pn : List (Addr × Obj)) (xe : Value → Shared → Prop), Takes (X.tr pn xe) W → PassesOwn (model X.prog X.w) X.A X.env xe → wSs (TrX X pn xe) body D σ H) hs hf tk (fun W pn xe tk' ho => ⟨fun pins s σ H D I q => (q pn xe tk' ho).run pins s I⟩) hh.ok) ?_
  intro pn xe tk' ho
  refine hb ⟨W, M, H⟩ pn xe ⟨fun cls d σ' H' => wMany X.K Wx Dn (l.map fun p => (p.1, suR X p.2)) cls d σ' H', tk', fun C od ns es δ' M' W' σ' H' A0 r q => ?_⟩ ho W σ H ⟨Fr.refl, A.same, A.env, A.len, A.cel⟩ Dn (f.rebase A)
  have A' : At X.K Z δ' M' W' σ' H' := ⟨A.fr.trans A0.fr, A0.same, A0.env, A0.len, A0.cel⟩
  have key : ∀ l : List (Value × List Stmt), DXs X Z w P l C ns es δ' M' → wMany X.K Wx Dn (l.map fun p => (p.1, suR X p.2)) (.ref C) od σ' H' := by
    intro l
    induction l with
    | nil => exact fun q => xk C od ns es δ' M' W' σ' H' A' r q
    | cons p rest ih =>
      obtain ⟨c, su⟩ := p
      rintro ⟨b, h1, h2, h3⟩
      exact ⟨b, h1, fun eb a na oe pn _ _ => h2 eb a oe pn W' σ' H' A' Dn (f.mono A0.fr.w), fun eb => ih (h3 eb)⟩
  exact key l q
end
end DL
namespace DL
open PySem L2
/-! ### plain data, compared -/
mutual
def D.py : D → PyData
  | .bl b => .bool b
  | .int i => .int i
  | .str s => .str s
  | .tup l => .tuple (D.pys l)
  | .lst l => .list (D.pys l)
  | .frl l => .list (D.pys l)
  | _ => .none
def D.pys : List D → List PyData
  | [] => []
  | d :: l => d.py :: D.pys l
end
mutual
def D.plain : D → Bool
  | .non => true
  | .bl _ => true
  | .int _ => true
  | .str _ => true
  | .tup l => D.plains l
  | .lst l => D.plains l
  | .frl l => D.plains l
  | _ => false
def D.plains : List D → Bool
  | [] => true
  | d :: l => d.plain && D.plains l
end
mutual
theorem rep_dp {K : PySem.W.Frag} {W H : Hp} (e : Same W H) : ∀ {v : V} {d : D}, Rep K W v d → d.plain = true → Dp K H v d.py
  | _, _, .non, _ => .non
  | _, _, .bl b, _ => .bl b
  | _, _, .int i, _ => .int i
  | _, _, .str s, _ => .str s
  | _, _, .tup h r, p => .tup (sqT_same e h) (reps_dp e r p)
  | _, _, .lst h r, p => .lst (SqL.of (e _ _ h)) (reps_dp e r p)
  | _, _, .frl h r, p => .lst (sqL_same e h) (reps_dp e r p)
  | _, _, .ty _, p => Bool.noConfusion p
  | _, _, .adr _, p => Bool.noConfusion p
  | _, _, .ins _ _ _, p => Bool.noConfusion p
  | _, _, .dK _ _ _, p => Bool.noConfusion p
theorem reps_dp {K : PySem.W.Frag} {W H : Hp} (e : Same W H) : ∀ {vs : List V} {ds : List D}, Reps K W vs ds → D.plains ds = true → DpAll K H vs (D.pys ds)
  | _, _, .nil, _ => .nil
  | _, _, .cons h r, p => by
    have p' := Bool.and_eq_true_iff.mp (show (_ && _) = true from p)
    exact .cons (rep_dp e h p'.1) (reps_dp e r p'.2)
end
theorem D.pys_ints : ∀ (l : List Int), D.pys (l.map D.int) = l.map PyData.int
  | [] => rfl
  | _ :: l => by rw [List.map_cons, List.map_cons]; show _ :: D.pys (l.map D.int) = _; rw [D.pys_ints l]; rfl
theorem D.plains_ints : ∀ (l : List Int), D.plains (l.map D.int) = true
  | [] => rfl
  | _ :: l => D.plains_ints l
/-! ### operations on data -/
section
variable {K : PySem.W.Frag} {M : Mem}
theorem ro_I {C : Int → Int → Prop} {g : Int → Int → Int} {i j : Int} (h : C i j) : RO K M (rI C fun i j => .int (g i j)) (.int i) (.int j) (.int (g i j)) := fun W H v u Q sm _ rx ry k => by
  cases rx; cases ry
  exact ⟨i, j, rfl, rfl, h, k _ W H (Step.refl sm) (.int _)⟩
theorem ro_I0 {g : Int → Int → Int} {i j : Int} : RO K M (rI0 fun i j => .int (g i j)) (.int i) (.int j) (.int (g i j)) := fun W H v u Q sm _ rx ry k => by
  cases rx; cases ry
  exact ⟨i, j, rfl, rfl, k _ W H (Step.refl sm) (.int _)⟩
theorem ro_B0 {g : Int → Int → Bool} {i j : Int} : RO K M (rI0 fun i j => .bl (g i j)) (.int i) (.int j) (.bl (g i j)) := fun W H v u Q sm _ rx ry k => by
  cases rx; cases ry
  exact ⟨i, j, rfl, rfl, k _ W H (Step.refl sm) (.bl _)⟩
theorem ro_eqD {d e : D} (h1 : d.plain = true) (h2 : e.plain = true) (h3 : SeqAt.shaped d.py = true) (h4 : SeqAt.shaped e.py = true) : RO K M (rEqD K) d e (.bl (PyData.eqv d.py e.py)) := fun W H v u Q sm _ rx ry k =>
  ⟨d.py, e.py, rep_dp sm rx h1, rep_dp sm ry h2, h3, h4, k _ W H (Step.refl sm) (.bl _)⟩
theorem ro_neD {d e : D} (h1 : d.plain = true) (h2 : e.plain = true) (h3 : SeqAt.shaped d.py = true) (h4 : SeqAt.shaped e.py = true) : RO K M (rNeD K) d e (.bl (!PyData.eqv d.py e.py)) := fun W H v u Q sm _ rx ry k =>
  ⟨d.py, e.py, rep_dp sm rx h1, rep_dp sm ry h2, h3, h4, k _ W H (Step.refl sm) (.bl _)⟩
theorem ro_isN {d : D} (hd : ∀ K W v, Rep K W v d → decide (v = .non) = b) : RO K M (fun x y H Q => y = .non ∧ Q (.bl (decide (x = .non))) H) d .non (.bl b) := fun W H v u Q sm _ rx ry k => by
  cases ry
  refine ⟨rfl, ?_⟩
  rw [hd K W v rx]
  exact k _ W H (Step.refl sm) (.bl _)
theorem ro_notN {d : D} (hd : ∀ K W v, Rep K W v d → decide (v = .non) = b) : RO K M (fun x y H Q => y = .non ∧ Q (.bl (!decide (x = .non))) H) d .non (.bl (!b)) := fun W H v u Q sm _ rx ry k => by
  cases ry
  refine ⟨rfl, ?_⟩
  rw [hd K W v rx]
  exact k _ W H (Step.refl sm) (.bl _)
theorem atI_reps {W : Hp} {xs : List V} {ds : List D} {i : Int} {d : D} (r : Reps K W xs ds) (h : atI ds i = some d) : ∃ v, atI xs i = some v ∧ Rep K W v d := by
  unfold atI at h ⊢
  rw [r.length]
  cases q : ixN ds.length i with
  | none => rw [q] at h; cases h
  | some j => rw [q] at h; exact r.get h
theorem ro_ixL {l : List D} {i : Int} {d : D} (h : atI l i = some d) : RO K M (rIxL K) (.lst l) (.int i) d := fun W H v u Q sm _ rx ry k => by
  obtain ⟨a, xs, ev, hl, rs⟩ := rx.lst_inv
  subst ev
  cases ry
  obtain ⟨v, h1, h2⟩ := atI_reps rs h
  exact ⟨a, xs, i, v, rfl, rfl, SqL.of (sm _ _ hl), h1, k _ W H (Step.refl sm) h2⟩
theorem ro_ixF {l : List D} {i : Int} {d : D} (h : atI l i = some d) : RO K M (rIxL K) (.frl l) (.int i) d := fun W H v u Q sm _ rx ry k => by
  obtain ⟨a, xs, ev, hl, rs⟩ := rx.frl_inv
  subst ev
  cases ry
  obtain ⟨v, h1, h2⟩ := atI_reps rs h
  exact ⟨a, xs, i, v, rfl, rfl, sqL_same sm hl, h1, k _ W H (Step.refl sm) h2⟩
theorem ro_ixM {a : Addr} {l : List D} {i : Int} {d : D} (hm : M a = some (.lst l)) (h : atI l i = some d) : RO K M (rIxL K) (.adr a) (.int i) d := fun W H v u Q sm mo rx ry k => by
  cases rx
  cases ry
  obtain ⟨_, ho, h1, h2⟩ := mo a _ hm
  cases h2 with
  | lst rs =>
    obtain ⟨v, h3, h4⟩ := atI_reps rs h
    exact ⟨a, _, i, v, rfl, rfl, SqL.of h1, h3, k _ W H (Step.refl sm) h4⟩
theorem ro_ixT {l : List D} {i : Int} {d : D} (h : atI l i = some d) : RO K M (rIxT K) (.tup l) (.int i) d := fun W H v u Q sm _ rx ry k => by
  obtain ⟨a, xs, ev, hl, rs⟩ := rx.tup_inv
  subst ev
  cases ry
  obtain ⟨v, h1, h2⟩ := atI_reps rs h
  exact ⟨a, xs, i, v, rfl, rfl, sqT_same sm hl, h1, k _ W H (Step.refl sm) h2⟩
/-- xs + ys, xs * k -/
theorem ro_cat {l m : List D} (h : l.length + m.length ≤ sizeLine) : RO K M rCat (.lst l) (.lst m) (.lst (l ++ m)) := fun W H v u Q sm _ rx ry k => by
  obtain ⟨a, xs, ev, hl, rs⟩ := rx.lst_inv
  subst ev
  obtain ⟨b, ys, ev, hm, rt⟩ := ry.lst_inv
  subst ev
  refine ⟨a, b, xs, ys, rfl, rfl, sm _ _ hl, sm _ _ hm, by rw [rs.length, rt.length]; exact h, fun p hp => ?_⟩
  have st := Step.new (o := .lst (xs ++ ys)) sm hp
  exact k _ _ _ st (.lst upd_same ((rs.append rt).mono st.w))
theorem reps_flat {W : Hp} {xs : List V} {ds : List D} (r : Reps K W xs ds) : ∀ n : Nat, Reps K W (List.replicate n xs).flatten (List.replicate n ds).flatten
  | 0 => .nil
  | n + 1 => by
    rw [List.replicate_succ, List.replicate_succ, List.flatten_cons, List.flatten_cons]
    exact r.append (reps_flat r n)
theorem ro_rep {l : List D} {n : Int} (h1 : -(2 ^ 63) ≤ n) (h2 : n < 2 ^ 63) (h : l.length * n.toNat ≤ sizeLine) : RO K M rRep (.lst l) (.int n) (.lst (List.replicate n.toNat l).flatten) := fun W H v u Q sm _ rx ry k => by
  obtain ⟨a, xs, ev, hl, rs⟩ := rx.lst_inv
  subst ev
  cases ry
  refine ⟨a, n, xs, rfl, rfl, sm _ _ hl, h1, h2, by rw [rs.length]; exact h, fun p hp => ?_⟩
  have st := Step.new (o := .lst (List.replicate n.toNat xs).flatten) sm hp
  exact k _ _ _ st (.lst upd_same ((reps_flat rs _).mono st.w))
/-! built-ins -/
theorem rc_abs {i : Int} : RC K M (fun xs H Q => ∃ i, xs = [.int i] ∧ Q (.int (if i < 0 then -i else i)) H) [.int i] (.int (i.natAbs : Int)) := fun W H vs Q sm _ r k => by
  cases r with
  | cons h r =>
    cases r; cases h
    refine ⟨i, rfl, ?_⟩
    have e : (if i < 0 then -i else i) = (i.natAbs : Int) := by split <;> omega
    rw [e]
    exact k _ W H (Step.refl sm) (.int _)
theorem rc_max2 {i j : Int} : RC K M (fun xs H Q => ∃ i j, xs = [.int i, .int j] ∧ Q (.int (if j > i then j else i)) H) [.int i, .int j] (.int (max i j)) := fun W H vs Q sm _ r k => by
  cases r with
  | cons h r =>
    cases r with
    | cons h' r =>
      cases r; cases h; cases h'
      refine ⟨i, j, rfl, ?_⟩
      have e : (if j > i then j else i) = max i j := by split <;> omega
      rw [e]
      exact k _ W H (Step.refl sm) (.int _)
theorem rc_min2 {i j : Int} : RC K M (fun xs H Q => ∃ i j, xs = [.int i, .int j] ∧ Q (.int (if j < i then j else i)) H) [.int i, .int j] (.int (min i j)) := fun W H vs Q sm _ r k => by
  cases r with
  | cons h r =>
    cases r with
    | cons h' r =>
      cases r; cases h; cases h'
      refine ⟨i, j, rfl, ?_⟩
      have e : (if j < i then j else i) = min i j := by split <;> omega
      rw [e]
      exact k _ W H (Step.refl sm) (.int _)
theorem rc_intB {b : Bool} : RC K M (fun xs H Q => (∃ i, xs = [.int i] ∧ Q (.int i) H) ∨ ∃ k, xs = [.bl k] ∧ Q (.int (if k then 1 else 0)) H) [.bl b] (.int (if b then 1 else 0)) := fun W H vs Q sm _ r k => by
  cases r with
  | cons h r =>
    cases r; cases h
    exact .inr ⟨b, rfl, k _ W H (Step.refl sm) (.int _)⟩
abbrev rLenQ (K : PySem.W.Frag) : List V → Hp → VK → Prop := fun xs H Q => ∃ p ys, xs = [.ref p] ∧ (SqL K H p ys ∨ SqT K H p ys) ∧ Q (.int ys.length) H
theorem rc_lenL {l : List D} : RC K M (rLenQ K) [.lst l] (.int l.length) := fun W H vs Q sm _ r k => by
  cases r with
  | cons h r =>
    cases r
    obtain ⟨a, xs, ev, hl, rs⟩ := h.lst_inv
    subst ev
    exact ⟨a, xs, rfl, .inl (SqL.of (sm _ _ hl)), by rw [rs.length]; exact k _ W H (Step.refl sm) (.int _)⟩
theorem rc_lenF {l : List D} : RC K M (rLenQ K) [.frl l] (.int l.length) := fun W H vs Q sm _ r k => by
  cases r with
  | cons h r =>
    cases r
    obtain ⟨a, xs, ev, hl, rs⟩ := h.frl_inv
    subst ev
    exact ⟨a, xs, rfl, .inl (sqL_same sm hl), by rw [rs.length]; exact k _ W H (Step.refl sm) (.int _)⟩
theorem rc_lenT {l : List D} : RC K M (rLenQ K) [.tup l] (.int l.length) := fun W H vs Q sm _ r k => by
  cases r with
  | cons h r =>
    cases r
    obtain ⟨a, xs, ev, hl, rs⟩ := h.tup_inv
    subst ev
    exact ⟨a, xs, rfl, .inr (sqT_same sm hl), by rw [rs.length]; exact k _ W H (Step.refl sm) (.int _)⟩
theorem rc_lenM {a : Addr} {l : List D} (hm : M a = some (.lst l)) : RC K M (rLenQ K) [.adr a] (.int l.length) := fun W H vs Q sm mo r k => by
  cases r with
  | cons h r =>
    cases r; cases h
    obtain ⟨_, ho, h1, h2⟩ := mo a _ hm
    cases h2 with
    | lst rs => exact ⟨a, _, rfl, .inl (SqL.of h1), by rw [rs.length]; exact k _ W H (Step.refl sm) (.int _)⟩
theorem reps_ints {W : Hp} : ∀ {l : List Int} {xs : List V}, Reps K W xs (l.map D.int) → xs = l.map V.int
  | [], _, .nil => rfl
  | _ :: l, _, .cons h r => by rw [h.int_inv, reps_ints r]; rfl
theorem reps_bls {W : Hp} : ∀ {l : List Bool} {xs : List V}, Reps K W xs (l.map D.bl) → xs = l.map V.bl
  | [], _, .nil => rfl
  | _ :: l, _, .cons h r => by rw [h.bl_inv, reps_bls r]; rfl
theorem rc_sum {l : List Int} : RC K M (L2.rSum K) [.lst (l.map D.int)] (.int l.sum) := fun W H vs Q sm _ r k => by
  cases r with
  | cons h r =>
    cases r
    obtain ⟨a, xs, ev, hl, rs⟩ := h.lst_inv
    subst ev
    have e := reps_ints rs
    subst e
    exact ⟨a, l, rfl, SqL.of (sm _ _ hl), k _ W H (Step.refl sm) (.int _)⟩
theorem rc_all {l : List Bool} : RC K M (L2.rAll K) [.lst (l.map D.bl)] (.bl (l.all id)) := fun W H vs Q sm _ r k => by
  cases r with
  | cons h r =>
    cases r
    obtain ⟨a, xs, ev, hl, rs⟩ := h.lst_inv
    subst ev
    have e := reps_bls rs
    subst e
    exact ⟨a, l, rfl, SqL.of (sm _ _ hl), k _ W H (Step.refl sm) (.bl _)⟩
/-! isinstance -/
/-- the type of plain data -/
def D.tyN : D → Option String
  | .non => some "NoneType"
  | .bl _ => some "bool"
  | .int _ => some "int"
  | .str _ => some "str"
  | .tup _ => some "tuple"
  | .lst _ => some "list"
  | .dK _ _ => some "dict"
  | _ => none
theorem ty_of {W H : Hp} {v : V} {d : D} {n : String} (sm : Same W H) (r : Rep K W v d) (e : d.tyN = some n) : TyX K H v (.type n) := by
  cases r with
  | non => cases e; exact .base .non
  | bl b => cases e; exact .base (.bl b)
  | int i => cases e; exact .base (.int i)
  | str s => cases e; exact .base (.str s)
  | tup h r =>
    cases e
    rcases h with (h | ⟨o, h⟩) | ⟨o, its, n, hk, hc, _⟩
    · exact .base (.tup (sm _ _ h))
    · exact .fTuple (sm _ _ h)
    · exact .kTuple hk hc
  | lst h r => cases e; exact .base (.lst (sm _ _ h))
  | dK h hl r => cases e; exact .base (.dK (sm _ _ h))
  | _ => cases e
theorem rc_isi {d : D} {n m : String} {b : Bool} (hd : d.tyN = some n) (hk : PySem.W.kitOne K (.type n) (.type m) = some b) : RC K M (L2.rIsi K) [d, .ty m] (.bl b) := fun W H vs Q sm _ r k => by
  cases r with
  | cons h r =>
    cases r with
    | cons h' r =>
      cases r
      have e := h'.ty_inv
      subst e
      exact ⟨_, .ty m, .type n, .type m, b, rfl, .ty m, ty_of sm h hd, hk, k _ W H (Step.refl sm) (.bl _)⟩
end
section
variable {X : Cx}
theorem op_mulK : OpR X (binaryOp .Mult) (rI IntMulOk fun i j => .int (i * j)) := opI fun _ _ _ _ _ _ _ hc q => PyProof.Rows.mul_int q hc
/-- a floor division by a divisor below 2 ^ 9000 in size -/
def CDivZ (_ j : Int) : Prop := j ≠ 0 ∧ j.natAbs.log2 < 9000
theorem op_fdivZ : OpR X (binaryOp .FloorDiv) (rI CDivZ fun i j => .int (i.fdiv j)) := opI fun _ _ _ _ _ _ _ hc q => PyProof.Rows.floordiv_int hc.1 q (.inl (PyProof.noPylong_of_log2 hc.2))
end
/-- sizes -/
theorem log2_lt_of {n k : Nat} (h : n < 2 ^ k) (h0 : 0 < k) : n.log2 < k := PySem.Flt.log2_lt_of h0 h
theorem mulOk {i j : Int} (a b : Nat) (ha : i.natAbs < 2 ^ a) (hb : j.natAbs < 2 ^ b) (h : a + b ≤ 900000) : IntMulOk i j :=
  CMulW.ok (wide_mul (a := a + 1) (b := b + 1) (Nat.lt_trans ha (by rw [Nat.pow_succ]; have := Nat.two_pow_pos a; omega)) (Nat.lt_trans hb (by rw [Nat.pow_succ]; have := Nat.two_pow_pos b; omega)) (Nat.succ_pos _) (Nat.succ_pos _) (by omega))
theorem mulOkR {i j : Int} (h1 : -(2 ^ 64) < j) (h2 : j < 2 ^ 64) : IntMulOk i j := CMul.ok (.inr ⟨h1, h2⟩)
theorem mulOkL {i j : Int} (h1 : -(2 ^ 64) < i) (h2 : i < 2 ^ 64) : IntMulOk i j := CMul.ok (.inl ⟨h1, h2⟩)
theorem divW {i j : Int} (b : Nat) (h0 : 0 < j) (hb : j.natAbs < 2 ^ b) (h : b < 9000) : CDivW i j := ⟨h0, Nat.lt_of_lt_of_le (log2_lt_of (k := b + 1) (Nat.lt_trans hb (by rw [Nat.pow_succ]; have := Nat.two_pow_pos b; omega)) (Nat.succ_pos _)) (by omega)⟩
/-! ### stores by place -/
section
variable {X : Cx} {Z : Ent} {o i e : Expr} {δ : Dl} {M : Mem} {P : DEnds} {pos tpos : Pos}
/-- o[i] = e, o a list of the store -/
theorem ds_setIx (h : DE X Z e δ M fun d M1 => DE X Z o δ M1 fun x M2 => DE X Z i δ M2 fun y M3 => ∃ a l k j, x = .adr a ∧ y = .int k ∧ M3 a = some (.lst l) ∧ ixN l.length k = some j ∧ P.nx δ (M3.set a (.lst (l.set j d))))
    (hs : swapsWithSole [.Subscript o i tpos] e pos.line X.env = pure false := by rfl) (hw : swappedStores [.Subscript o i tpos] e X.env = pure none := by rfl) (h1 : (assignEach [.Subscript o i tpos] X.env).map (·.2) = [assign (.Subscript o i tpos) X.env] := by rfl)
    (ha : ∀ v, assign (.Subscript o i tpos) X.env v = (do
      let ov ← holding [v] (eval o X.env)
      let iv ← holding [v, ov] (eval i X.env)
      standAt tpos
      holding [v, ov, iv] (setItem ov iv v)
      release [v, ov, iv] []) := by intro _; rfl) : DS1 X Z (.Assign [.Subscript o i tpos] e pos) δ M P := fun W σ H A Dn f =>
  of_ps (ps_asg pe_w (pg_sub pe_w pe_w set_list ha) hs hw h1) (h W σ H A _ fun v d M1 W1 H1 A1 s1 r1 h1 => h1 W1 σ H1 A1 _ fun vo x M2 W2 H2 A2 s2 r2 h2 => h2 W2 σ H2 A2 _ fun vi y M3 W3 H3 A3 s3 r3 ⟨a, l, k, j, ex, ey, hm, hj, p⟩ => by
    subst ex ey
    have e1 := r2.adr_inv
    have e2 := r3.int_inv
    subst e1 e2
    obtain ⟨_, ho, g1, g2⟩ := A3.cel a _ hm
    cases g2 with
    | @lst xs _ rs =>
      refine ⟨a, xs, k, j, rfl, rfl, g1, by rw [rs.length]; exact hj, ?_⟩
      exact f.nx δ _ W3 σ _ (A3.write hm (.lst (rs.set (r1.mono (s2.trans s3)) j))) (s1.trans (s2.trans s3)) p)
/-- o.append(e), o a list of the store -/
theorem de_append {apos : Pos} {post : DK} (h : DE X Z o δ M fun x M1 => ∃ a, x = .adr a ∧ (∃ l, M1 a = some (.lst l)) ∧ DE X Z e δ M1 fun d M2 => ∃ l, M2 a = some (.lst l) ∧ l.length < sizeLine ∧ post .non (M2.set a (.lst (l ++ [d]))))
    (he : starEach [e] X.env = (false, eval e X.env) :: starEach [] X.env := by rfl) (hbase : attributeBase o "append" X.env (eval o X.env) = eval o X.env := by rfl)
    (hfew : ((backTo pos (starEach [e] X.env)).all (fun x => !x.1) && (backToKw pos (keywordEach [] X.env)).all (fun x => x.1.isSome)
      && decide (([e] : List Expr).length + ([] : List Keyword).length + (if ([] : List Keyword).isEmpty then 0 else 1) < 30)) = true := by rfl)
    (hline : (apos.endLine == pos.line) = true := by rfl) (hplain : (backTo pos (starEach [] X.env)).any (·.1) = false := by rfl) : DE X Z (.Call (.Attribute o "append" apos) [e] [] pos) δ M post := fun W σ H A Q k =>
  of_pe (pe_bm PySem.F.plainAttrs_list PySem.F.slot_list_append PySem.F.type_list_append mt_append pe_w (pa_cons pe_w pa_nil he) hbase hfew hline he hplain) (h W σ H A _ fun v x M1 W1 H1 A1 s1 r1 ⟨a, ex, ⟨l1, hm1⟩, h2⟩ => by
    subst ex
    have e1 := r1.adr_inv
    subst e1
    obtain ⟨_, ho1, g1, g2⟩ := A1.cel a _ hm1
    cases g2 with
    | lst rs1 =>
      refine ⟨.inl ⟨rfl, _, SqL.of g1⟩, h2 W1 σ H1 A1 _ fun u d M2 W2 H2 A2 s2 r2 ⟨l, hm, hz, p⟩ => ?_⟩
      obtain ⟨_, ho, g3, g4⟩ := A2.cel a _ hm
      cases g4 with
      | @lst xs _ rs =>
        exact ⟨a, xs, u, rfl, rfl, g3, by rw [rs.length]; exact hz, k _ _ _ W2 _ (A2.write hm (.lst (rs.append (.one r2)))) (s1.trans s2) .non p⟩)
end
end DL
namespace DL
open PySem L2
/-! ### the rules one writes -/
theorem iteD {c A B : Prop} [Decidable c] (h1 : c → A) (h2 : ¬ c → B) : if decide c = true then A else B := by
  by_cases h : c
  · rw [if_pos (decide_eq_true h)]; exact h1 h
  · rw [if_neg (by rw [decide_eq_false h]; exact Bool.false_ne_true)]; exact h2 h
theorem iteN {c A B : Prop} [Decidable c] (h1 : ¬ c → A) (h2 : c → B) : if (!decide c) = true then A else B := by
  by_cases h : c
  · rw [if_neg (by rw [decide_eq_true h]; decide)]; exact h2 h
  · rw [if_pos (by rw [decide_eq_false h]; decide)]; exact h1 h
theorem iteB {c : Bool} {A B : Prop} (h1 : c = true → A) (h2 : c = false → B) : if c = true then A else B := by
  cases c with
  | true => rw [if_pos rfl]; exact h1 rfl
  | false => rw [if_neg Bool.false_ne_true]; exact h2 rfl
section
variable {X : Cx} {Z : Ent} {e a b c : Expr} {es : List Expr} {δ : Dl} {M : Mem} {post : DK} {pos : Pos} {p : Bool → Mem → Prop}
theorem de_add (h : DE X Z a δ M fun x M1 => DE X Z b δ M1 fun y M2 => ∃ i j, x = .int i ∧ y = .int j ∧ post (.int (i + j)) M2) : DE X Z (.BinOp a .Add b pos) δ M post :=
  de_op op_add (h.imp fun x M1 h1 => h1.imp fun y M2 ⟨i, j, ex, ey, q⟩ => by subst ex ey; exact ⟨_, ro_I0, q⟩)
theorem de_sub (h : DE X Z a δ M fun x M1 => DE X Z b δ M1 fun y M2 => ∃ i j, x = .int i ∧ y = .int j ∧ post (.int (i - j)) M2) : DE X Z (.BinOp a .Sub b pos) δ M post :=
  de_op op_sub (h.imp fun x M1 h1 => h1.imp fun y M2 ⟨i, j, ex, ey, q⟩ => by subst ex ey; exact ⟨_, ro_I0, q⟩)
theorem de_mul (h : DE X Z a δ M fun x M1 => DE X Z b δ M1 fun y M2 => ∃ i j, x = .int i ∧ y = .int j ∧ IntMulOk i j ∧ post (.int (i * j)) M2) : DE X Z (.BinOp a .Mult b pos) δ M post :=
  de_op op_mulK (h.imp fun x M1 h1 => h1.imp fun y M2 ⟨i, j, ex, ey, hc, q⟩ => by subst ex ey; exact ⟨_, ro_I hc, q⟩)
/-- // by a positive divisor -/
theorem de_fdiv (h : DE X Z a δ M fun x M1 => DE X Z b δ M1 fun y M2 => ∃ i j, x = .int i ∧ y = .int j ∧ CDivW i j ∧ post (.int (i / j)) M2) : DE X Z (.BinOp a .FloorDiv b pos) δ M post :=
  de_op op_fdivW (h.imp fun x M1 h1 => h1.imp fun y M2 ⟨i, j, ex, ey, hc, q⟩ => by subst ex ey; exact ⟨_, ro_I hc, q⟩)
theorem de_fdivZ (h : DE X Z a δ M fun x M1 => DE X Z b δ M1 fun y M2 => ∃ i j, x = .int i ∧ y = .int j ∧ CDivZ i j ∧ post (.int (i.fdiv j)) M2) : DE X Z (.BinOp a .FloorDiv b pos) δ M post :=
  de_op op_fdivZ (h.imp fun x M1 h1 => h1.imp fun y M2 ⟨i, j, ex, ey, hc, q⟩ => by subst ex ey; exact ⟨_, ro_I hc, q⟩)
/-- % by a positive number; by any other than 0 -/
theorem de_mod (h : DE X Z a δ M fun x M1 => DE X Z b δ M1 fun y M2 => ∃ i j, x = .int i ∧ y = .int j ∧ 0 < j ∧ post (.int (i % j)) M2) : DE X Z (.BinOp a .Mod b pos) δ M post :=
  de_op op_mod (h.imp fun x M1 h1 => h1.imp fun y M2 ⟨i, j, ex, ey, hc, q⟩ => by subst ex ey; exact ⟨_, ro_I hc, q⟩)
theorem de_modZ (h : DE X Z a δ M fun x M1 => DE X Z b δ M1 fun y M2 => ∃ i j, x = .int i ∧ y = .int j ∧ j ≠ 0 ∧ post (.int (i.fmod j)) M2) : DE X Z (.BinOp a .Mod b pos) δ M post :=
  de_op op_modN (h.imp fun x M1 h1 => h1.imp fun y M2 ⟨i, j, ex, ey, hc, q⟩ => by subst ex ey; exact ⟨_, ro_I hc, q⟩)
theorem de_pow (h : DE X Z a δ M fun x M1 => DE X Z b δ M1 fun y M2 => ∃ i j, x = .int i ∧ y = .int j ∧ CPow i j ∧ post (.int (i ^ j.toNat)) M2) : DE X Z (.BinOp a .Pow b pos) δ M post :=
  de_op op_pow (h.imp fun x M1 h1 => h1.imp fun y M2 ⟨i, j, ex, ey, hc, q⟩ => by subst ex ey; exact ⟨_, ro_I hc, q⟩)
theorem ru_I {K : PySem.W.Frag} {g : Int → Int} {i : Int} : RU K M (rU fun i => .int (g i)) (.int i) (.int (g i)) := fun W H v Q sm _ rx k => by
  cases rx
  exact ⟨i, rfl, k _ W H (Step.refl sm) (.int _)⟩
theorem de_neg (h : DE X Z a δ M fun x M1 => ∃ i, x = .int i ∧ post (.int (-i)) M1) : DE X Z (.UnaryOp .USub a pos) δ M post := de_un un_neg (h.imp fun x M1 ⟨i, ex, q⟩ => by subst ex; exact ⟨_, ru_I, q⟩)
/-- lists -/
theorem de_cat (h : DE X Z a δ M fun x M1 => DE X Z b δ M1 fun y M2 => ∃ l m, x = .lst l ∧ y = .lst m ∧ l.length + m.length ≤ sizeLine ∧ post (.lst (l ++ m)) M2) : DE X Z (.BinOp a .Add b pos) δ M post :=
  de_op op_cat (h.imp fun x M1 h1 => h1.imp fun y M2 ⟨i, j, ex, ey, hc, q⟩ => by subst ex ey; exact ⟨_, ro_cat hc, q⟩)
theorem de_rep (h : DE X Z a δ M fun x M1 => DE X Z b δ M1 fun y M2 => ∃ l n, x = .lst l ∧ y = .int n ∧ (-(2 ^ 63) ≤ n ∧ n < 2 ^ 63) ∧ l.length * n.toNat ≤ sizeLine ∧ post (.lst (List.replicate n.toNat l).flatten) M2) : DE X Z (.BinOp a .Mult b pos) δ M post :=
  de_op op_rep (h.imp fun x M1 h1 => h1.imp fun y M2 ⟨i, j, ex, ey, ⟨hn, hm⟩, hc, q⟩ => by subst ex ey; exact ⟨_, ro_rep hn hm hc, q⟩)
/-- comparisons of ints, as tests and as values -/
theorem dt_lt (h : DE X Z a δ M fun x M1 => DE X Z b δ M1 fun y M2 => ∃ i j, x = .int i ∧ y = .int j ∧ p (decide (i < j)) M2) : DT X Z (.Compare a [.Lt] [b] pos) δ M p :=
  dt_cmp op_lt (nomark _) (h.imp fun x M1 h1 => h1.imp fun y M2 ⟨i, j, ex, ey, q⟩ => by subst ex ey; exact ⟨_, ro_B0, q⟩)
theorem dt_le (h : DE X Z a δ M fun x M1 => DE X Z b δ M1 fun y M2 => ∃ i j, x = .int i ∧ y = .int j ∧ p (decide (i ≤ j)) M2) : DT X Z (.Compare a [.LtE] [b] pos) δ M p :=
  dt_cmp op_le (nomark _) (h.imp fun x M1 h1 => h1.imp fun y M2 ⟨i, j, ex, ey, q⟩ => by subst ex ey; exact ⟨_, ro_B0, q⟩)
theorem dt_gt (h : DE X Z a δ M fun x M1 => DE X Z b δ M1 fun y M2 => ∃ i j, x = .int i ∧ y = .int j ∧ p (decide (j < i)) M2) : DT X Z (.Compare a [.Gt] [b] pos) δ M p :=
  dt_cmp op_gt (nomark _) (h.imp fun x M1 h1 => h1.imp fun y M2 ⟨i, j, ex, ey, q⟩ => by subst ex ey; exact ⟨_, ro_B0, q⟩)
theorem dt_ge (h : DE X Z a δ M fun x M1 => DE X Z b δ M1 fun y M2 => ∃ i j, x = .int i ∧ y = .int j ∧ p (decide (j ≤ i)) M2) : DT X Z (.Compare a [.GtE] [b] pos) δ M p :=
  dt_cmp op_ge (nomark _) (h.imp fun x M1 h1 => h1.imp fun y M2 ⟨i, j, ex, ey, q⟩ => by subst ex ey; exact ⟨_, ro_B0, q⟩)
theorem de_lt (h : DE X Z a δ M fun x M1 => DE X Z b δ M1 fun y M2 => ∃ i j, x = .int i ∧ y = .int j ∧ post (.bl (decide (i < j))) M2) : DE X Z (.Compare a [.Lt] [b] pos) δ M post :=
  de_cmp op_lt (nomark _) (h.imp fun x M1 h1 => h1.imp fun y M2 ⟨i, j, ex, ey, q⟩ => by subst ex ey; exact ⟨_, ro_B0, q⟩)
theorem de_le (h : DE X Z a δ M fun x M1 => DE X Z b δ M1 fun y M2 => ∃ i j, x = .int i ∧ y = .int j ∧ post (.bl (decide (i ≤ j))) M2) : DE X Z (.Compare a [.LtE] [b] pos) δ M post :=
  de_cmp op_le (nomark _) (h.imp fun x M1 h1 => h1.imp fun y M2 ⟨i, j, ex, ey, q⟩ => by subst ex ey; exact ⟨_, ro_B0, q⟩)
theorem de_gt (h : DE X Z a δ M fun x M1 => DE X Z b δ M1 fun y M2 => ∃ i j, x = .int i ∧ y = .int j ∧ post (.bl (decide (j < i))) M2) : DE X Z (.Compare a [.Gt] [b] pos) δ M post :=
  de_cmp op_gt (nomark _) (h.imp fun x M1 h1 => h1.imp fun y M2 ⟨i, j, ex, ey, q⟩ => by subst ex ey; exact ⟨_, ro_B0, q⟩)
theorem de_ge (h : DE X Z a δ M fun x M1 => DE X Z b δ M1 fun y M2 => ∃ i j, x = .int i ∧ y = .int j ∧ post (.bl (decide (j ≤ i))) M2) : DE X Z (.Compare a [.GtE] [b] pos) δ M post :=
  de_cmp op_ge (nomark _) (h.imp fun x M1 h1 => h1.imp fun y M2 ⟨i, j, ex, ey, q⟩ => by subst ex ey; exact ⟨_, ro_B0, q⟩)
theorem ro_eqI {K : PySem.W.Frag} {i j : Int} : RO K M rEq (.int i) (.int j) (.bl (decide (i = j))) := fun W H v u Q sm _ rx ry k => by
  cases rx; cases ry
  have e : decide (V.int i = V.int j) = decide (i = j) := by simp
  refine ⟨rfl, ?_⟩
  rw [e]
  exact k _ W H (Step.refl sm) (.bl _)
theorem ro_neI {K : PySem.W.Frag} {i j : Int} : RO K M rNe (.int i) (.int j) (.bl (!decide (i = j))) := fun W H v u Q sm _ rx ry k => by
  cases rx; cases ry
  have e : decide (V.int i = V.int j) = decide (i = j) := by simp
  refine ⟨rfl, ?_⟩
  rw [e]
  exact k _ W H (Step.refl sm) (.bl _)
theorem dt_eq (h : DE X Z a δ M fun x M1 => DE X Z b δ M1 fun y M2 => ∃ i j, x = .int i ∧ y = .int j ∧ p (decide (i = j)) M2) : DT X Z (.Compare a [.Eq] [b] pos) δ M p :=
  dt_cmp op_eq (nomark _) (h.imp fun x M1 h1 => h1.imp fun y M2 ⟨i, j, ex, ey, q⟩ => by subst ex ey; exact ⟨_, ro_eqI, q⟩)
theorem dt_ne (h : DE X Z a δ M fun x M1 => DE X Z b δ M1 fun y M2 => ∃ i j, x = .int i ∧ y = .int j ∧ p (!decide (i = j)) M2) : DT X Z (.Compare a [.NotEq] [b] pos) δ M p :=
  dt_cmp op_ne (nomark _) (h.imp fun x M1 h1 => h1.imp fun y M2 ⟨i, j, ex, ey, q⟩ => by subst ex ey; exact ⟨_, ro_neI, q⟩)
theorem de_eq (h : DE X Z a δ M fun x M1 => DE X Z b δ M1 fun y M2 => ∃ i j, x = .int i ∧ y = .int j ∧ post (.bl (decide (i = j))) M2) : DE X Z (.Compare a [.Eq] [b] pos) δ M post :=
  de_cmp op_eq (nomark _) (h.imp fun x M1 h1 => h1.imp fun y M2 ⟨i, j, ex, ey, q⟩ => by subst ex ey; exact ⟨_, ro_eqI, q⟩)
theorem de_ne (h : DE X Z a δ M fun x M1 => DE X Z b δ M1 fun y M2 => ∃ i j, x = .int i ∧ y = .int j ∧ post (.bl (!decide (i = j))) M2) : DE X Z (.Compare a [.NotEq] [b] pos) δ M post :=
  de_cmp op_ne (nomark _) (h.imp fun x M1 h1 => h1.imp fun y M2 ⟨i, j, ex, ey, q⟩ => by subst ex ey; exact ⟨_, ro_neI, q⟩)
/-- plain data compared at any depth -/
structure PlainD (d : D) : Prop where
  pl : d.plain = true
  sh : SeqAt.shaped d.py = true
theorem dt_eqD (hu : X.A.units + 64 < cLine) (h : DE X Z a δ M fun x M1 => DE X Z b δ M1 fun y M2 => PlainD x ∧ PlainD y ∧ p (PyData.eqv x.py y.py) M2) : DT X Z (.Compare a [.Eq] [b] pos) δ M p :=
  dt_cmp (op_eqD hu) (nomark _) (h.imp fun x M1 h1 => h1.imp fun y M2 ⟨hx, hy, q⟩ => ⟨_, ro_eqD hx.pl hy.pl hx.sh hy.sh, q⟩)
theorem dt_neD (hu : X.A.units + 64 < cLine) (h : DE X Z a δ M fun x M1 => DE X Z b δ M1 fun y M2 => PlainD x ∧ PlainD y ∧ p (!PyData.eqv x.py y.py) M2) : DT X Z (.Compare a [.NotEq] [b] pos) δ M p :=
  dt_cmp (op_neD hu) (nomark _) (h.imp fun x M1 h1 => h1.imp fun y M2 ⟨hx, hy, q⟩ => ⟨_, ro_neD hx.pl hy.pl hx.sh hy.sh, q⟩)
theorem de_eqD (hu : X.A.units + 64 < cLine) (h : DE X Z a δ M fun x M1 => DE X Z b δ M1 fun y M2 => PlainD x ∧ PlainD y ∧ post (.bl (PyData.eqv x.py y.py)) M2) : DE X Z (.Compare a [.Eq] [b] pos) δ M post :=
  de_cmp (op_eqD hu) (nomark _) (h.imp fun x M1 h1 => h1.imp fun y M2 ⟨hx, hy, q⟩ => ⟨_, ro_eqD hx.pl hy.pl hx.sh hy.sh, q⟩)
theorem de_neD (hu : X.A.units + 64 < cLine) (h : DE X Z a δ M fun x M1 => DE X Z b δ M1 fun y M2 => PlainD x ∧ PlainD y ∧ post (.bl (!PyData.eqv x.py y.py)) M2) : DE X Z (.Compare a [.NotEq] [b] pos) δ M post :=
  de_cmp (op_neD hu) (nomark _) (h.imp fun x M1 h1 => h1.imp fun y M2 ⟨hx, hy, q⟩ => ⟨_, ro_neD hx.pl hy.pl hx.sh hy.sh, q⟩)
/-- is None -/
def D.isNon : D → Bool
  | .non => true
  | _ => false
theorem isNon_of {K : PySem.W.Frag} {W : Hp} {v : V} {d : D} (r : Rep K W v d) : decide (v = .non) = d.isNon := by cases r <;> rfl
theorem dt_isN {j : Nat} {pos' : Pos} (h : DE X Z a δ M fun x M1 => p x.isNon M1) : DT X Z (.Compare a [.Is] [.Constant .none j pos'] pos) δ M p :=
  dt_cmp op_isN (nomark _) (h.imp fun x M1 q => de_non ⟨_, ro_isN fun _ _ _ r => isNon_of r, q⟩)
theorem dt_notN {j : Nat} {pos' : Pos} (h : DE X Z a δ M fun x M1 => p (!x.isNon) M1) : DT X Z (.Compare a [.IsNot] [.Constant .none j pos'] pos) δ M p :=
  dt_cmp op_notN (nomark _) (h.imp fun x M1 q => de_non ⟨_, ro_notN fun _ _ _ r => isNon_of r, q⟩)
theorem de_isN {j : Nat} {pos' : Pos} (h : DE X Z a δ M fun x M1 => post (.bl x.isNon) M1) : DE X Z (.Compare a [.Is] [.Constant .none j pos'] pos) δ M post :=
  de_cmp op_isN (nomark _) (h.imp fun x M1 q => de_non ⟨_, ro_isN fun _ _ _ r => isNon_of r, q⟩)
theorem de_notN {j : Nat} {pos' : Pos} (h : DE X Z a δ M fun x M1 => post (.bl (!x.isNon)) M1) : DE X Z (.Compare a [.IsNot] [.Constant .none j pos'] pos) δ M post :=
  de_cmp op_notN (nomark _) (h.imp fun x M1 q => de_non ⟨_, ro_notN fun _ _ _ r => isNon_of r, q⟩)
/-- subscripts: of a list, a locked list, a list of the store, a tuple -/
theorem de_ixL (h : DE X Z a δ M fun x M1 => DE X Z b δ M1 fun y M2 => ∃ l i d, x = .lst l ∧ y = .int i ∧ atI l i = some d ∧ post d M2) (hs : PlainIx b := by intro _ _; rfl) : DE X Z (.Subscript a b pos) δ M post :=
  de_ix ix_list (h.imp fun x M1 h1 => h1.imp fun y M2 ⟨l, i, d, ex, ey, hc, q⟩ => by subst ex ey; exact ⟨_, ro_ixL hc, q⟩) hs
theorem de_ixF (h : DE X Z a δ M fun x M1 => DE X Z b δ M1 fun y M2 => ∃ l i d, x = .frl l ∧ y = .int i ∧ atI l i = some d ∧ post d M2) (hs : PlainIx b := by intro _ _; rfl) : DE X Z (.Subscript a b pos) δ M post :=
  de_ix ix_list (h.imp fun x M1 h1 => h1.imp fun y M2 ⟨l, i, d, ex, ey, hc, q⟩ => by subst ex ey; exact ⟨_, ro_ixF hc, q⟩) hs
theorem de_ixM (h : DE X Z a δ M fun x M1 => DE X Z b δ M1 fun y M2 => ∃ p l i d, x = .adr p ∧ y = .int i ∧ M2 p = some (.lst l) ∧ atI l i = some d ∧ post d M2) (hs : PlainIx b := by intro _ _; rfl) : DE X Z (.Subscript a b pos) δ M post :=
  de_ix ix_list (h.imp fun x M1 h1 => h1.imp fun y M2 ⟨p, l, i, d, ex, ey, hm, hc, q⟩ => by subst ex ey; exact ⟨_, ro_ixM hm hc, q⟩) hs
theorem de_ixT (h : DE X Z a δ M fun x M1 => DE X Z b δ M1 fun y M2 => ∃ l i d, x = .tup l ∧ y = .int i ∧ atI l i = some d ∧ post d M2) (hs : PlainIx b := by intro _ _; rfl) : DE X Z (.Subscript a b pos) δ M post :=
  de_ix ix_tup (h.imp fun x M1 h1 => h1.imp fun y M2 ⟨l, i, d, ex, ey, hc, q⟩ => by subst ex ey; exact ⟨_, ro_ixT hc, q⟩) hs
theorem DA.imp {P P' : List D → Mem → Prop} (h : DA X Z es δ M P) (k : ∀ d M', P d M' → P' d M') : DA X Z es δ M P' := fun W σ H A Q q => h W σ H A Q fun v d M' W' H' A' s r p => q v d M' W' H' A' s r (k _ _ p)
/-- built-ins -/
theorem de_abs {q : Pos} (hm : X.mg "abs" = none) (h : DA X Z [e] δ M fun ds M1 => ∃ i, ds = [.int i] ∧ post (.int (i.natAbs : Int)) M1) (hg : Gl X "abs" := by rfl) (he : starEach [e] X.env = (false, eval e X.env) :: starEach [] X.env := by rfl) (hpl : (backTo pos (starEach [] X.env)).any (·.1) = false := by rfl) :
    DE X Z (.Call (.Name "abs" q) [e] [] pos) δ M post := de_callB call_abs hm (fun W σ H A Q k => h W σ H A Q fun vs ds M' W' H' A' s r ⟨i, ed, p⟩ => k vs ds M' W' H' A' s r (by subst ed; exact ⟨_, rc_abs, p⟩)) PyProof.Rows.boot_abs hg (by decide) (by decide) he hpl
def LenD (M : Mem) : D → Nat → Prop
  | .lst l, n => n = l.length
  | .frl l, n => n = l.length
  | .tup l, n => n = l.length
  | .adr a, n => ∃ l, M a = some (.lst l) ∧ n = l.length
  | _, _ => False
theorem rc_len {K : PySem.W.Frag} {d : D} {n : Nat} (h : LenD M d n) : RC K M (rLenQ K) [d] (.int (n : Int)) := by
  cases d with
  | lst l => have e : n = l.length := h; subst e; exact rc_lenL
  | frl l => have e : n = l.length := h; subst e; exact rc_lenF
  | tup l => have e : n = l.length := h; subst e; exact rc_lenT
  | adr a => obtain ⟨l, hm, e⟩ := (show ∃ l, M a = some (.lst l) ∧ n = l.length from h); subst e; exact rc_lenM hm
  | _ => exact (show False from h).elim
theorem de_len {q : Pos} (hm : X.mg "len" = none) (h : DA X Z [e] δ M fun ds M1 => ∃ d n, ds = [d] ∧ LenD M1 d n ∧ post (.int (n : Int)) M1) (hg : Gl X "len" := by rfl) (he : starEach [e] X.env = (false, eval e X.env) :: starEach [] X.env := by rfl) (hpl : (backTo pos (starEach [] X.env)).any (·.1) = false := by rfl) :
    DE X Z (.Call (.Name "len" q) [e] [] pos) δ M post := de_callB call_len_seq hm (h.imp fun ds M1 ⟨d, n, ed, hl, p⟩ => by subst ed; exact ⟨_, rc_len hl, p⟩) PySem.boot_len hg (by decide) (by decide) he hpl
theorem de_max2 {q : Pos} (hm : X.mg "max" = none) (h : DA X Z [a, b] δ M fun ds M1 => ∃ i j, ds = [.int i, .int j] ∧ post (.int (max i j)) M1) (hc : X.calm = true := by rfl) (hg : Gl X "max" := by rfl) (he : starEach [a, b] X.env = (false, eval a X.env) :: starEach [b] X.env := by rfl)
    (hpl : (backTo pos (starEach [b] X.env)).any (·.1) = false := by rfl) : DE X Z (.Call (.Name "max" q) [a, b] [] pos) δ M post := de_callB (call_max2 hc) hm (h.imp fun ds M1 ⟨i, j, ed, p⟩ => by subst ed; exact ⟨_, rc_max2, p⟩) PyProof.Rows.boot_max hg (by decide) (by decide) he hpl
theorem de_min2 {q : Pos} (hm : X.mg "min" = none) (h : DA X Z [a, b] δ M fun ds M1 => ∃ i j, ds = [.int i, .int j] ∧ post (.int (min i j)) M1) (hc : X.calm = true := by rfl) (hg : Gl X "min" := by rfl) (he : starEach [a, b] X.env = (false, eval a X.env) :: starEach [b] X.env := by rfl)
    (hpl : (backTo pos (starEach [b] X.env)).any (·.1) = false := by rfl) : DE X Z (.Call (.Name "min" q) [a, b] [] pos) δ M post := de_callB (call_min2 hc) hm (h.imp fun ds M1 ⟨i, j, ed, p⟩ => by subst ed; exact ⟨_, rc_min2, p⟩) PyProof.Rows.boot_min hg (by decide) (by decide) he hpl
theorem de_intB {q : Pos} (hm : X.mg "int" = none) (h : DA X Z [e] δ M fun ds M1 => ∃ c, ds = [.bl c] ∧ post (.int (if c then 1 else 0)) M1) (hg : Gl X "int" := by rfl) (he : starEach [e] X.env = (false, eval e X.env) :: starEach [] X.env := by rfl) (hpl : (backTo pos (starEach [] X.env)).any (·.1) = false := by rfl) :
    DE X Z (.Call (.Name "int" q) [e] [] pos) δ M post := de_callTy call_int1 hm (h.imp fun ds M1 ⟨i, ed, p⟩ => by subst ed; exact ⟨_, rc_intB, p⟩) PyProof.Rows.boot_int hg (by decide) (by decide) he hpl
theorem de_sum {q : Pos} (hm : X.mg "sum" = none) (h : DA X Z [e] δ M fun ds M1 => ∃ l : List Int, ds = [.lst (l.map D.int)] ∧ post (.int l.sum) M1) (hc : X.calm = true := by rfl) (hg : Gl X "sum" := by rfl) (he : starEach [e] X.env = (false, eval e X.env) :: starEach [] X.env := by rfl)
    (hpl : (backTo pos (starEach [] X.env)).any (·.1) = false := by rfl) : DE X Z (.Call (.Name "sum" q) [e] [] pos) δ M post := de_callB (cr_sum hc) hm (h.imp fun ds M1 ⟨l, ed, p⟩ => by subst ed; exact ⟨_, rc_sum, p⟩) PyProof.Rows.boot_sum hg (by decide) (by decide) he hpl
theorem de_all {q : Pos} (hm : X.mg "all" = none) (h : DA X Z [e] δ M fun ds M1 => ∃ l : List Bool, ds = [.lst (l.map D.bl)] ∧ post (.bl (l.all id)) M1) (hc : X.calm = true := by rfl) (hg : Gl X "all" := by rfl) (he : starEach [e] X.env = (false, eval e X.env) :: starEach [] X.env := by rfl)
    (hpl : (backTo pos (starEach [] X.env)).any (·.1) = false := by rfl) : DE X Z (.Call (.Name "all" q) [e] [] pos) δ M post := de_callB (cr_all hc) hm (h.imp fun ds M1 ⟨l, ed, p⟩ => by subst ed; exact ⟨_, rc_all, p⟩) PyProof.Rows.boot_all hg (by decide) (by decide) he hpl
/-- isinstance(e, T), T a built-in class -/
theorem de_isi {q : Pos} (hm : X.mg "isinstance" = none) (h : DA X Z [a, b] δ M fun ds M1 => ∃ d n m r, ds = [d, .ty m] ∧ d.tyN = some n ∧ kitB n m = some r ∧ post (.bl r) M1) (hg : Gl X "isinstance" := by rfl) (he : starEach [a, b] X.env = (false, eval a X.env) :: starEach [b] X.env := by rfl)
    (hpl : (backTo pos (starEach [b] X.env)).any (·.1) = false := by rfl) : DE X Z (.Call (.Name "isinstance" q) [a, b] [] pos) δ M post :=
  de_callB call_isi hm (h.imp fun ds M1 ⟨d, n, m, r, ed, hd, hk, p⟩ => by subst ed; exact ⟨_, rc_isi hd (kit_ty hk), p⟩) PyProof.Rows.boot_isinstance hg (by decide) (by decide) he hpl
end
end DL
namespace DL
open PySem L2
/-! ### facts of the top -/
/-- what the top left behind: facts by name, defs -/
structure Tx (fa : List He.Fa) (fn : List He.DefD) (K : PySem.W.Frag) (mg : Str → Option Value) : Prop where
  h : ∃ h : Heap, K.In h ∧ h.Ns mainGlobals mg
  c : He.SaysD fa fn K
section
variable {fa : List He.Fa} {fn : List He.DefD} {K : PySem.W.Frag} {mg : Str → Option Value}
theorem Tx.glo (T : Tx fa fn K mg) (i : Nat) {x : Str} (h : fa[i]? = some (.glo x) := by rfl) : mg x = some (.ref (He.ga K x)) := let ⟨_, X, G⟩ := T.h; He.glo_ok X G (T.c.fact i h)
theorem Tx.free (T : Tx fa fn K mg) (i : Nat) {x : Str} (h : fa[i]? = some (.free x) := by rfl) : mg x = none := let ⟨_, X, G⟩ := T.h; He.free_ok X G (T.c.fact i h)
theorem Tx.int (T : Tx fa fn K mg) (i : Nat) {x : Str} {z : Int} (h : fa[i]? = some (.int x z) := by rfl) : ∃ t, mg x = some (.int z t) := let ⟨_, X, G⟩ := T.h; He.int_ok X G (T.c.fact i h)
theorem Tx.keep (T : Tx fa fn K mg) (i : Nat) {x : Str} (h : fa[i]? = some (.keep x) := by rfl) : PySem.W.keepIn K (.ref (He.ga K x)) = true := He.keep_ok (T.c.fact i h)
theorem Tx.exc (T : Tx fa fn K mg) (i : Nat) {x : Str} (h : fa[i]? = some (.exc x) := by rfl) : PySem.W.excIn K (He.ga K x) He.veBase "ValueError.__new__" = true ∧ PySem.W.keepIn K (.ref (He.ga K x)) = true ∧ PySem.W.subIn K (.ref (He.ga K x)) (.type "BaseException") = some true ∧ PySem.W.typeIn K (.ref (He.ga K x)) = some (.type "type") := He.exc_ok (T.c.fact i h)
theorem Tx.exm (T : Tx fa fn K mg) (i : Nat) {x y : Str} {b : Bool} (h : fa[i]? = some (.exm x y b) := by rfl) : PySem.W.exmOne K (.ref (He.ga K x)) (.ref (He.ga K y)) = some b := He.exm_ok (T.c.fact i h)
theorem Tx.def_ (T : Tx fa fn K mg) (i : Nat) {d : He.DefD} (h : fn[i]? = some d := by rfl) : ∃ fd, FunD K d.name d.qual d.params d.body d.scope (d.dvs K) (d.kws K) (He.fAd K d.at_) fd := T.c.def_ i h
theorem Tx.kp (T : Tx fa fn K mg) (i : Nat) {d : He.DefD} (h : fn[i]? = some d := by rfl) : PySem.W.keepIn K (.ref (He.fAd K d.at_)) = true := let ⟨_, F⟩ := T.c.def_ i h; F.kp
/-- raise X('..') -/
theorem ds_raiseT {fa : List He.Fa} {fn : List He.DefD} {X : Cx} {Z : Ent} (T : Tx fa fn X.K X.mg) (i j : Nat) {x : Str} {δ : Dl} {M : Mem} {P : DEnds} {pos p p2 cpos : Pos} {m : Str} {k : Nat} {w : DXW} (xt : XT X Z w) (h : w (He.ga X.K x) [] [] δ M) (h1 : fa[i]? = some (.exc x) := by rfl) (h2 : fa[j]? = some (.glo x) := by rfl)
    (hc : X.calm = true := by rfl) (hg : Gl X x := by rfl) (hdb : (x == ("__debug__" : Str)) = false := by decide) : DS1 X Z (.Raise (some (.Call (.Name x p) [.Constant (.str m) k p2] [] cpos)) none pos) δ M P :=
  let ⟨q, kC, b, t⟩ := T.exc i h1
  ds_raise xt PySem.F.excBase_ValueError q (T.glo j h2) kC b t h hc hg hdb
end
/-! ### the end -/
theorem walk_ofEW {l : PySem.W.OpenLaw} {n k : Nat} {q : Program} {loose : List Str} {XP : (Str → Option Value) → Heap → Prop} {YP : World → Heap → Prop} {d : DefRec} {CX : World → CXT} {x : Str}
    (hn : l.most = some n) (hn2 : n ≤ sizeLine) (hdf : d.params.defaults = []) (hr : Room k callerA)
    (F : ∀ (w : World) (mg : Str → Option Value) (fa : Addr) (h : Heap), YP w h → h.Ns mainGlobals mg → mg d.name = some (.ref fa) →
      ∃ (K : PySem.W.Frag) (fd : FuncData) (sp : Sp), K.In h ∧ (∀ (s : Shared) (u : Value), BindsTo s fd ⟨[u], []⟩ [(x, u)]) ∧
        (∀ (H : Hp) (a : Addr) (ns : List Int), ns.length ≤ n → Only H → SqL K H a (ns.map V.int) → sp [.ref a] H (fun v _ => v = .bl true) fun _ _ _ => False) ∧
        ∀ base : Heap, K.In base → base.Ns mainGlobals mg → FnOk l.prog w K mg base (CX w) k fa fd [x] sp)
    (hCX : ∀ (w : World) (H : Hp) (s : Shared) (e : Value) (s' : Shared), CX w [] H s (fun _ _ _ => False) e s' → False) :
    PySem.W.WalkO q loose XP YP l.row.toRowW d [] (fun f vs => PySem.call f vs) := by
  refine Att.attach_call hn hdf fun w s₀ s₁ mg mb fa o pm cd doc a vs ns G Y ho hd hcd hmg hobj hints hlen hg => ?_
  obtain ⟨K, fd, sp, KX, hb, hsp, hF⟩ := F w mg fa _ Y G.T.g hmg
  exact law_call KX G.T.g G.T.b G.T.builtins G.T.nolimit hg hobj hints (Nat.le_trans hlen hn2) hr hF hb (fun H hO hS => hsp H a ns hlen hO hS) fun H e s' => hCX w H s₁ e s'
/-- the law's own promise: of every list of at most n whole numbers it answers True -/
def lawS (n : Nat) : DSp := fun ds M post xp => ∃ ns : List Int, ns.length ≤ n ∧ ds = [.frl (ns.map .int)] ∧ (∀ M', post (.bl true) M')
theorem law_start {K : PySem.W.Frag} {n : Nat} {H : Hp} {a : Addr} {ns : List Int} (hl : ns.length ≤ n) (hS : SqL K H a (ns.map V.int)) : spOf K (lawS n) [.ref a] H (fun v _ => v = .bl true) fun _ _ _ => False :=
  ⟨[.frl (ns.map .int)], H, fun _ => none, fun d _ => d = .bl true, fun _ _ _ _ => False, Same.refl _, fun _ _ e => (by cases e), .cons (.frl hS (Reps.ints ns)) .nil, ⟨ns, hl, rfl, fun _ => rfl⟩, fun v d W' M' H' _ _ _ r e => by subst e; exact r.bl_inv, fun _ _ _ _ _ _ _ _ _ _ _ z => z⟩
theorem cx_no {P : Program} {w : World} {H : Hp} {s s' : Shared} {e : Value} (h : L2.CX P w [] H s (fun _ _ _ => False) e s') : False := by
  obtain ⟨_, _, _, _, _, _, _, _, _, _, _, _, z⟩ := h
  exact z
theorem FnD.or {P : Program} {w : World} {K : PySem.W.Frag} {mg : Str → Option Value} {base : Heap} {k : Nat} {f : Addr} {S1 S2 : DSp} (F1 : FnD P w K mg base k f S1) (F2 : FnD P w K mg base k f S2) : FnD P w K mg base k f (fun ds M post xp => S1 ds M post xp ∨ S2 ds M post xp) :=
  fun A outer s H us vs Q E hr e0 r ⟨ds, W, M, post, xp, h1, h2, h3, h4, h5⟩ => h4.elim (fun h => F1 A outer s H us vs Q E hr e0 r ⟨ds, W, M, post, xp, h1, h2, h3, h, h5⟩) (fun h => F2 A outer s H us vs Q E hr e0 r ⟨ds, W, M, post, xp, h1, h2, h3, h, h5⟩)
/-! ### more rules -/
def D.isInt : D → Bool
  | .int _ => true
  | _ => false
/-- what a value's type says of isinstance(_, int), isinstance(_, bool) -/
theorem kitInt {d : D} {n : String} (h : d.tyN = some n) : ∃ b c, kitB n "int" = some b ∧ kitB n "bool" = some c ∧ d.isInt = (b && !c) := by
  cases d <;> simp only [D.tyN, Option.some.injEq, reduceCtorEq] at h <;> subst h <;> first | exact ⟨false, false, by decide +kernel, by decide +kernel, rfl⟩ | exact ⟨true, false, by decide +kernel, by decide +kernel, rfl⟩ | exact ⟨true, true, by decide +kernel, by decide +kernel, rfl⟩
section
variable {X : Cx} {Z : Ent} {e a b c : Expr} {es : List Expr} {δ : Dl} {M : Mem} {post : DK} {pos : Pos} {p : Bool → Mem → Prop}
/-- plain data of depth at most n -/
structure Pd (n : Nat) (d : D) : Prop where
  pl : d.plain = true
  lay : d.py.canLay0 = true
  dp : d.py.depth ≤ n
theorem Pd.ok {n : Nat} {d : D} (h : Pd n d) (hn : n ≤ 64 := by decide) : PlainD d := ⟨h.pl, by show (d.py.canLay0 && decide (d.py.depth ≤ 64)) = true; rw [h.lay, decide_eq_true (Nat.le_trans h.dp hn)]; rfl⟩
theorem pd_int {n : Nat} {i : Int} : Pd n (.int i) := ⟨rfl, by simp only [D.py, PyData.canLay0], by simp only [D.py, PyData.depth]; exact Nat.zero_le _⟩
theorem pd_bl {n : Nat} {i : Bool} : Pd n (.bl i) := ⟨rfl, by simp only [D.py, PyData.canLay0], by simp only [D.py, PyData.depth]; exact Nat.zero_le _⟩
theorem pd_non {n : Nat} : Pd n .non := ⟨rfl, by simp only [D.py, PyData.canLay0], by simp only [D.py, PyData.depth]; exact Nat.zero_le _⟩
theorem pd_strA {n : Nat} {i : Str} (h : (PyData.str i).canLay0 = true) : Pd n (.str i) := ⟨rfl, by simp only [D.py]; exact h, by simp only [D.py, PyData.depth]; exact Nat.zero_le _⟩
theorem pds {n : Nat} : ∀ {l : List D}, (∀ d ∈ l, Pd n d) → D.plains l = true ∧ PyData.canLayAll0 (D.pys l) = true ∧ PyData.depthAll (D.pys l) ≤ n
  | [], _ => ⟨by simp only [D.plains], by simp only [D.pys, PyData.canLayAll0], by simp only [D.pys, PyData.depthAll]; exact Nat.zero_le _⟩
  | d :: l, h => by
    have h1 := h d (List.mem_cons_self ..)
    obtain ⟨a, b, c⟩ := pds fun e he => h e (List.mem_cons_of_mem _ he)
    have := h1.dp
    exact ⟨by simp only [D.plains, h1.pl, a, Bool.and_self], by simp only [D.pys, PyData.canLayAll0, h1.lay, b, Bool.and_self], by simp only [D.pys, PyData.depthAll]; omega⟩
theorem pd_tup {n : Nat} {l : List D} (h : ∀ d ∈ l, Pd n d) : Pd (n + 1) (.tup l) := let ⟨a, b, c⟩ := pds h; ⟨by simp only [D.plain, a], by simp only [D.py, PyData.canLay0, b], by simp only [D.py, PyData.depth]; omega⟩
theorem pd_lst {n : Nat} {l : List D} (h : ∀ d ∈ l, Pd n d) : Pd (n + 1) (.lst l) := let ⟨a, b, c⟩ := pds h; ⟨by simp only [D.plain, a], by simp only [D.py, PyData.canLay0, b], by simp only [D.py, PyData.depth]; omega⟩
theorem pd_frl {n : Nat} {l : List D} (h : ∀ d ∈ l, Pd n d) : Pd (n + 1) (.frl l) := let ⟨a, b, c⟩ := pds h; ⟨by simp only [D.plain, a], by simp only [D.py, PyData.canLay0, b], by simp only [D.py, PyData.depth]; omega⟩
theorem mem_ints {l : List Int} {d : D} (h : d ∈ l.map D.int) : ∃ i, d = .int i := by
  obtain ⟨i, _, e⟩ := List.mem_map.mp h
  exact ⟨i, e.symm⟩
theorem plainF (ns : List Int) : PlainD (.frl (ns.map .int)) := (pd_frl (n := 0) fun d h => let ⟨_, e⟩ := mem_ints h; e ▸ pd_int).ok
theorem plainL (ns : List Int) : PlainD (.lst (ns.map .int)) := (pd_lst (n := 0) fun d h => let ⟨_, e⟩ := mem_ints h; e ▸ pd_int).ok
theorem plainT (ns : List Int) : PlainD (.tup (ns.map .int)) := (pd_tup (n := 0) fun d h => let ⟨_, e⟩ := mem_ints h; e ▸ pd_int).ok
theorem plainE : PlainD (.lst []) := (pd_lst (n := 0) fun d h => by cases h).ok
mutual
theorem eqv_refl : ∀ d : PyData, d.canLay0 = true → PyData.eqv d d = true
  | .none, _ => by simp only [PyData.eqv]
  | .bool _, _ => by simp [PyData.eqv]
  | .int _, _ => by simp [PyData.eqv]
  | .str _, _ => by simp [PyData.eqv]
  | .list l, h => by simp only [PyData.eqv]; exact eqvAll_refl l (by simpa only [PyData.canLay0] using h)
  | .tuple l, h => by simp only [PyData.eqv]; exact eqvAll_refl l (by simpa only [PyData.canLay0] using h)
  | .dict _, h => by simp [PyData.canLay0] at h
theorem eqvAll_refl : ∀ l : List PyData, PyData.canLayAll0 l = true → PyData.eqvAll l l = true
  | [], _ => by simp only [PyData.eqvAll]
  | d :: l, h => by
    have h' : (d.canLay0 && PyData.canLayAll0 l) = true := by simpa only [PyData.canLayAll0] using h
    obtain ⟨a, b⟩ := Bool.and_eq_true_iff.mp h'
    simp only [PyData.eqvAll, eqv_refl d a, eqvAll_refl l b, Bool.and_self]
end
theorem Pd.refl {n : Nat} {d : D} (h : Pd n d) : PyData.eqv d.py d.py = true := eqv_refl _ h.lay
theorem szl {n : Nat} (h : n ≤ 100000 := by first | decide | (simp only [List.length_cons, List.length_nil]; decide)) : n ≤ sizeLine := Nat.le_trans h (by decide)
theorem de_powN {i j : Int} {k1 k2 : Nat} {p1 p2 : Pos} (n : Int) (q : post (.int n) M) (h : i ^ j.toNat = n := by decide +kernel) (c : CPow i j := by exact ⟨by decide, by decide, by decide⟩) : DE X Z (.BinOp (.Constant (.int i) k1 p1) .Pow (.Constant (.int j) k2 p2) pos) δ M post :=
  de_pow (de_int (de_int ⟨i, j, rfl, rfl, c, by rw [h]; exact q⟩))
theorem atI_of {l : List D} {i : Int} {d : D} (h0 : 0 ≤ i) (h : l[i.toNat]? = some d) : atI l i = some d := by
  have hl : i.toNat < l.length := (List.getElem?_eq_some_iff.mp h).1
  have e : ixN l.length i = some i.toNat := by
    unfold ixN
    rw [if_pos h0, if_pos (by omega)]
  unfold atI
  rw [e]
  exact h
/-- [a, b, ..][k] of ints; of anything -/
theorem de_ixLI (h : DE X Z a δ M fun x M1 => DE X Z b δ M1 fun y M2 => ∃ (ns : List Int) (i : Int), x = .lst (ns.map .int) ∧ y = .int i ∧ 0 ≤ i ∧ i < (ns.length : Int) ∧ post (.int (ns.getD i.toNat 0)) M2) (hs : PlainIx b := by intro _ _; rfl) : DE X Z (.Subscript a b pos) δ M post :=
  de_ixL (h.imp fun x M1 h1 => h1.imp fun y M2 ⟨ns, i, ex, ey, h0, h1, q⟩ => ⟨_, i, _, ex, ey, atI_of h0 (by rw [List.getElem?_map, List.getElem?_eq_getElem (by omega)]; rfl), by rw [List.getD_eq_getElem?_getD, List.getElem?_eq_getElem (by omega)] at q; exact q⟩) hs
theorem de_ixAny (h : DE X Z a δ M fun x M1 => DE X Z b δ M1 fun y M2 => ∃ (l : List D) (i : Int), x = .lst l ∧ y = .int i ∧ 0 ≤ i ∧ i < (l.length : Int) ∧ ∀ d, d ∈ l → post d M2) (hs : PlainIx b := by intro _ _; rfl) : DE X Z (.Subscript a b pos) δ M post :=
  de_ixL (h.imp fun x M1 h1 => h1.imp fun y M2 ⟨l, i, ex, ey, h0, h1, q⟩ => ⟨_, i, l[i.toNat]'(by omega), ex, ey, atI_of h0 (List.getElem?_eq_getElem _), q _ (List.getElem_mem _)⟩) hs
theorem ds_cut {st : Stmt} {sts : List Stmt} {P : DEnds} (J : Dl → Mem → Prop) (h : DS1 X Z st δ M { P with nx := J }) (k : ∀ δ' M', J δ' M' → DS X Z sts δ' M' P) : DS X Z (st :: sts) δ M P := fun W σ H A Dn f =>
  of_pss (pss_cons ps_w pss_w) (h W σ H A _ ⟨fun δ' M' W' σ' H' A' s q => k δ' M' q W' σ' H' A' Dn (f.mono s), f.rt, f.bk, f.ct⟩)
theorem rangeD_inv {lo : Int} {n i : Nat} {d : D} (h : (rangeD lo n)[i]? = some d) : i < n ∧ d = .int (lo + (i : Nat)) := by
  have hi : i < n := by
    have := (List.getElem?_eq_some_iff.mp h).1
    rwa [rangeD_length] at this
  rw [rangeD_get hi] at h
  exact ⟨hi, (Option.some.inj h).symm⟩
end
end DL
namespace DL
open PySem L2
/-! promises of the program's small defs, of the laws' own -/
def spIs : DSp := fun ds M post _ => ∃ d n, ds = [d] ∧ d.tyN = some n ∧ post (.bl d.isInt) M
/-- a whole number, not less than the other one (if that stands) -/
def okD : D → D → Bool
  | .int i, .int l => !decide (i < l)
  | .int _, _ => true
  | _, _ => false
def spCk2 (C : Addr) : DSp := fun ds M post xp => ∃ d l n, ds = [d, l] ∧ d.tyN = some n ∧ (l = .non ∨ ∃ i, l = .int i) ∧ if okD d l = true then post .non M else xp C [] [] M
def spCk (C : Addr) : DSp := fun ds M post xp => spCk2 C ds M post xp ∨ spCk2 C (ds ++ [.non]) M post xp
theorem ckd2 {C : Addr} {d : D} {l : Int} {n : String} {M : Mem} {post : DK} {xp : DXK} (hn : d.tyN = some n) (h : okD d (.int l) = true → post .non M) (g : okD d (.int l) = false → xp C [] [] M) : spCk C [d, .int l] M post xp :=
  .inl ⟨_, _, _, rfl, hn, .inr ⟨_, rfl⟩, iteB h g⟩
theorem ckd1 {C : Addr} {d : D} {n : String} {M : Mem} {post : DK} {xp : DXK} (hn : d.tyN = some n) (h : okD d .non = true → post .non M) (g : okD d .non = false → xp C [] [] M) : spCk C [d] M post xp :=
  .inr ⟨_, _, _, rfl, hn, .inl rfl, iteB h g⟩
theorem ck2 {C : Addr} {i l : Int} {M : Mem} {post : DK} {xp : DXK} (h : l ≤ i) (q : post .non M) : spCk C [.int i, .int l] M post xp :=
  ckd2 rfl (fun _ => q) (fun z => by
    have e : okD (.int i) (.int l) = true := by show (!decide (i < l)) = true; rw [decide_eq_false (by omega)]; rfl
    rw [e] at z
    cases z)
theorem ck1 {C : Addr} {i : Int} {M : Mem} {post : DK} {xp : DXK} (q : post .non M) : spCk C [.int i] M post xp :=
  ckd1 rfl (fun _ => q) (fun z => by cases z)
/-- sums of floors -/
def SumOk (n a b m : Int) : Prop := 0 ≤ n ∧ 0 < m ∧ FS.Bt 200 n ∧ FS.Bt 200 a ∧ FS.Bt 200 b ∧ FS.Bt 200 m
def spSum : DSp := fun ds M post _ => ∃ n a b m : Int, ds = [.int n, .int a, .int b, .int m] ∧ SumOk n a b m ∧ post (.int (FS.fs n.toNat a b m)) M
def JSum (F : Int) (M : Mem) (k : Nat) (δ : Dl) (M' : Mem) : Prop := ∃ (c a b m t : Int) (x : Option D), δ = [some (.int c), some (.int a), some (.int b), some (.int m), some (.int t), x] ∧ M' = M ∧ 0 ≤ c ∧ 0 < m ∧ FS.Bt 200 c ∧ FS.Bt 200 a ∧ FS.Bt 200 b ∧ FS.Bt 200 m ∧ t + FS.fs c.toNat a b m = F ∧ k = m.toNat
def spFloor (C : Addr) : DSp := fun ds M post xp => (∃ n a b m : Int, ds = [.int n, .int a, .int b, .int m] ∧ SumOk n a b m ∧ post (.int (FS.fs n.toNat a b m)) M) ∨
  ∃ c a b m, ds = [c, a, b, m] ∧ (c.tyN = some (c.tyN.getD "") ∧ a.tyN = some (a.tyN.getD "") ∧ b.tyN = some (b.tyN.getD "") ∧ m.tyN = some (m.tyN.getD "")) ∧ (okD c (.int 0) && (okD a .non && (okD b .non && okD m (.int 1)))) = false ∧ xp C [] [] M
def Dr (M : Mem) (a : Addr) : Prop := ∃ x y : Int, M a = some (.lst [.int x, .int y]) ∧ 0 ≤ y ∧ y < 2147483647
def Keeps (M M' : Mem) (a : Addr) : Prop := ∀ b, b ≠ a → M' b = M b
theorem Keeps.trans {M M1 M2 : Mem} {a : Addr} (h : Keeps M M1 a) (g : Keeps M1 M2 a) : Keeps M M2 a := fun b e => (g b e).trans (h b e)
theorem Keeps.set {M : Mem} {a : Addr} {o : MO} : Keeps M (M.set a o) a := fun b e => Mem.set_ne e
def spDraws : DSp := fun ds M post _ => ∃ (ns : List Int) (k : Int), ds = [.frl (ns.map .int), .int k] ∧ 0 ≤ k ∧ ∀ p M', M p = none → Keeps M M' p → Dr M' p → post (.adr p) M'
def spDraw : DSp := fun ds M post _ => ∃ (a : Addr) (u : Int), ds = [.adr a, .int u] ∧ Dr M a ∧ (0 < u ∧ FS.Bt 100 u) ∧ ∀ r M', 0 ≤ r → r < u → Keeps M M' a → Dr M' a → post (.int r) M'
def spShort : DSp := fun ds M post _ => ∃ a : Addr, ds = [.adr a] ∧ Dr M a ∧ ∀ r M', 0 ≤ r → r < 1000000000000 → Keeps M M' a → Dr M' a → post (.int r) M'
theorem pick3 {a b c : Int} {i : Int} {L : Int} (ha : 0 ≤ a ∧ a < L) (hb : 0 ≤ b ∧ b < L) (hc : 0 ≤ c ∧ c < L) (h0 : 0 ≤ i) (h : i < 3) : 0 ≤ [a, b, c].getD i.toNat 0 ∧ [a, b, c].getD i.toNat 0 < L := by
  obtain ⟨n, rfl⟩ := Int.eq_ofNat_of_zero_le h0
  match n, h with
  | 0, _ => exact ha
  | 1, _ => exact hb
  | 2, _ => exact hc
/-- the greatest common divisor -/
def spGcd : DSp := fun ds M post _ => ∃ x y : Int, ds = [.int x, .int y] ∧ post (.int (Int.gcd x y)) M
theorem gcd_mod (x y : Int) : Int.gcd (x % y) y = Int.gcd x y := by
  have e : x = x % y + y * (x / y) := (Int.emod_add_mul_ediv x y).symm
  conv => rhs; rw [e]
  rw [Int.gcd_add_mul_left_left]
def JGcd (g : Int) (M : Mem) (k : Nat) (δ : Dl) (M' : Mem) : Prop := ∃ x y : Int, δ = [some (.int x), some (.int y)] ∧ M' = M ∧ (Int.gcd x y : Int) = g ∧ k = y.natAbs
theorem fmod_lt (x : Int) {y : Int} (h : y ≠ 0) : (x.fmod y).natAbs < y.natAbs := by
  rcases Int.lt_or_lt_of_ne h with q | q
  · have e : x.fmod y = -((-x).fmod (-y)) := by rw [Int.neg_fmod_neg]; omega
    have h1 := Int.fmod_nonneg_of_pos (-x) (show 0 < -y by omega)
    have h2 := Int.fmod_lt_of_pos (-x) (show 0 < -y by omega)
    omega
  · have h1 := Int.fmod_nonneg_of_pos x q
    have h2 := Int.fmod_lt_of_pos x q
    omega
theorem gcd_fmod (x y : Int) : Int.gcd (x.fmod y) y = Int.gcd x y := by
  rw [Int.fmod_def, Int.gcd_comm, Int.gcd_sub_mul_left_right, Int.gcd_comm]
theorem iteZ {i : Int} {A B : Prop} (h1 : i ≠ 0 → A) (h2 : i = 0 → B) : if (i != 0) = true then A else B := by
  by_cases h : i = 0
  · subst h
    rw [if_neg (by decide)]
    exact h2 rfl
  · rw [if_pos (by simpa using h)]
    exact h1 h
/-- the common divisor of a list -/
def gcdL (ns : List Int) : Int := ns.foldl (fun g n => (Int.gcd g n : Int)) 0
theorem gcdL_nn (ns : List Int) : 0 ≤ gcdL ns := by
  have h : ∀ (ns : List Int) (g : Int), 0 ≤ g → 0 ≤ ns.foldl (fun g n => (Int.gcd g n : Int)) g := fun ns => by
    induction ns with
    | nil => exact fun g h => h
    | cons n ns ih => exact fun g _ => ih _ (Int.natCast_nonneg _)
  exact h ns 0 (Int.le_refl _)
theorem gcdL_two {x : Int} (h : 0 ≤ x) : gcdL [x, x] = x := by
  show (Int.gcd (Int.gcd 0 x : Int) x : Int) = x
  rw [Int.gcd_zero_left]
  rw [show ((x.natAbs : Nat) : Int) = x by omega, Int.gcd_self]
  omega
theorem foldl_take {α β : Type} (f : α → β → α) (a : α) (l : List β) {i : Nat} {x : β} (h : l[i]? = some x) : (l.take (i + 1)).foldl f a = f ((l.take i).foldl f a) x := by
  rw [List.take_add_one, h, List.foldl_append]
  rfl
theorem ints_get {ns : List Int} {i : Nat} {d : D} (h : (ns.map D.int)[i]? = some d) : ∃ n, ns[i]? = some n ∧ d = .int n := by
  rw [List.getElem?_map] at h
  cases q : ns[i]? with
  | none => rw [q] at h; cases h
  | some n => rw [q] at h; exact ⟨n, rfl, (Option.some.inj h).symm⟩
/-- greatest_divisor(..): of whole numbers alone; or one is none -/
def Named (d : D) : Prop := d.tyN = some (d.tyN.getD "")
def spGD (C : Addr) : DSp := fun ds M post xp => ds.length ≤ sizeLine ∧ ((∃ ns : List Int, ds = ns.map .int ∧ post (.int (gcdL ns)) M) ∨ ((∀ d ∈ ds, Named d) ∧ (∃ d ∈ ds, d.isInt = false) ∧ xp C [] [] M))
/-- any of a list by its place -/
theorem getD_all {P : Int → Prop} {l : List Int} (h : ∀ x ∈ l, P x) {i : Int} (h0 : 0 ≤ i) (h1 : i < (l.length : Int)) : P (l.getD i.toNat 0) := by
  rw [List.getD_eq_getElem?_getD, List.getElem?_eq_getElem (by omega)]
  exact h _ (List.getElem_mem _)
def spInteger : DSp := fun ds M post _ => ∃ a : Addr, ds = [.adr a] ∧ Dr M a ∧ ∀ r M', -1000000000000000000000000 < r → r < 1000000000000000000000000 → Keeps M M' a → Dr M' a → post (.int r) M'
theorem uOk {u : Int} (h : 0 < u := by decide) (h2 : u < 1267650600228229401496703205376 := by decide) : 0 < u ∧ FS.Bt 100 u := ⟨h, .of (by omega) (by omega)⟩
theorem sgOk {i sg : Int} (h : sg = 1 ∨ sg = -1) : IntMulOk i sg := mulOkR (by omega) (by omega)
theorem sg2 {i : Int} (h0 : 0 ≤ i) (h1 : i < 2) : ([1, -1] : List Int).getD i.toNat 0 = 1 ∨ ([1, -1] : List Int).getD i.toNat 0 = -1 := getD_all (P := fun x => x = 1 ∨ x = -1) (by decide) h0 h1
theorem sgLt {v size sg L : Int} (z1 : 0 < size) (z2 : size ≤ L) (hs : sg = 1 ∨ sg = -1) : -L < v % size * sg ∧ v % size * sg < L := by
  have v0 := Int.emod_nonneg v (show size ≠ 0 by omega)
  have v1 := Int.emod_lt_of_pos v z1
  rcases hs with rfl | rfl
  · rw [Int.mul_one]; omega
  · rw [Int.mul_neg, Int.mul_one]; omega
theorem ifLt {c : Bool} : 0 ≤ (if c = true then 1 else 0 : Int) ∧ (if c = true then 1 else 0 : Int) < 2 := by cases c <;> decide
theorem neD_same {n : Nat} {A B : Prop} {x y : D} (h : Pd n x) (e : x = y) (q : B) (hn : n ≤ 64 := by decide) : PlainD x ∧ PlainD y ∧ if (!PyData.eqv x.py y.py) = true then A else B := by
  subst e
  rw [h.refl]
  exact ⟨h.ok hn, h.ok hn, by rw [if_neg (by decide)]; exact q⟩
theorem eqD_same {n : Nat} {A B : Prop} {x y : D} (h : Pd n x) (e : x = y) (q : A) (hn : n ≤ 64 := by decide) : PlainD x ∧ PlainD y ∧ if PyData.eqv x.py y.py = true then A else B := by
  subst e
  rw [h.refl]
  exact ⟨h.ok hn, h.ok hn, by rw [if_pos rfl]; exact q⟩
theorem ifF {A B : Prop} (b : B) : if false = true then A else B := by rw [if_neg Bool.false_ne_true]; exact b
theorem ifT {A B : Prop} (a : A) : if true = true then A else B := by rw [if_pos rfl]; exact a
/-! comprehensions -/
section
variable {X : Cx} {Z : Ent} {elt iter tg : Expr} {ifs : List Expr} {scope : Scope} {δ : Dl} {M1 : Mem} {t : Tgt} {vs : List Nat} {post : DK} {l : List D}
/-- each item to f of it, no condition -/
theorem lcMap (f : D → D) (h : ∀ (i : Nat) (d : D), l[i]? = some d → ∃ δ', bindD t d (wipeD δ vs) = some δ' ∧ ∀ Z' s H0 C cl fp, DE (Blk X scope s H0 C cl fp) Z' elt δ' M1 fun y M3 => y = f d ∧ M3 = M1) (hl : l.length ≤ sizeLine) (p : post (.lst (l.map f)) M1) :
    LcOk X t scope vs [] elt δ post l M1 := by
  refine ⟨fun i acc M => acc = (l.take i).map f ∧ M = M1, ⟨by simp, rfl⟩, ?_, hl, ?_⟩
  · rintro i acc d M hd ⟨rfl, rfl⟩
    obtain ⟨δ', h1, h2⟩ := h i d hd
    refine ⟨δ', h1, fun Z' s H0 C cl fp => dts_nil ?_⟩
    rw [if_pos rfl]
    intro s H0 C cl fp
    refine (h2 Z' s H0 C cl fp).imp fun y M3 ⟨e1, e2⟩ => ⟨?_, e2⟩
    rw [e1, List.take_add_one, hd]
    simp
  · rintro acc M ⟨rfl, rfl⟩
    rw [List.take_length]
    exact p
/-- those of which b holds, each to f of it -/
theorem lcFil {c : Expr} (f : D → D) (b : D → Bool) (h : ∀ (i : Nat) (d : D), l[i]? = some d → ∃ δ', bindD t d (wipeD δ vs) = some δ' ∧ (∀ Z' s H0 C cl fp, DT (Blk X scope s H0 C cl fp) Z' c δ' M1 fun k M3 => k = b d ∧ M3 = M1) ∧ (b d = true → ∀ Z' s H0 C cl fp, DE (Blk X scope s H0 C cl fp) Z' elt δ' M1 fun y M3 => y = f d ∧ M3 = M1))
    (hl : l.length ≤ sizeLine) (p : post (.lst ((l.filter b).map f)) M1) : LcOk X t scope vs [c] elt δ post l M1 := by
  refine ⟨fun i acc M => acc = ((l.take i).filter b).map f ∧ M = M1, ⟨by simp, rfl⟩, ?_, hl, ?_⟩
  · rintro i acc d M hd ⟨rfl, rfl⟩
    obtain ⟨δ', h1, h2, h3⟩ := h i d hd
    refine ⟨δ', h1, fun Z' s H0 C cl fp => dts_one ((h2 Z' s H0 C cl fp).imp fun k M3 ⟨e1, e2⟩ => ?_)⟩
    subst e1 e2
    refine iteB (fun q s H0 C cl fp => ?_) (fun q => ⟨?_, rfl⟩)
    · refine (h3 q Z' s H0 C cl fp).imp fun y M3 ⟨e1, e2⟩ => ⟨?_, e2⟩
      rw [e1, List.take_add_one, hd]
      simp [q]
    · rw [List.take_add_one, hd]
      simp [q]
  · rintro acc M ⟨rfl, rfl⟩
    rw [List.take_length]
    exact p
end
/-! one named clause -/
section
variable {X : Cx} {Z : Ent} {body suite : List Stmt} {δ : Dl} {M : Mem} {P : DEnds} {pos pos' np : Pos} {x : Str} {w : DXW}
theorem ds_try1 {b0 : Stmt} {c : Value} (xt : XT X Z w) (hc : Names X x c)
    (hb : ∀ (Z' : Ent) (pn : List (Addr × Obj)) (xe : Value → Shared → Prop), XT (TrX X pn xe) Z' (fun C ns es δ M => ∃ b, PySem.W.exmOne X.K (.ref C) c = some b ∧ (b = true → ∀ (a : Addr) (oe : Obj) (pn : List (Addr × Obj)), DS (SuX X a ((a, oe) :: pn)) Z (b0 :: suite) δ M P) ∧ (b = false → w C ns es δ M)) → PassesOwn (model X.prog X.w) X.A X.env xe → DS (TrX X pn xe) Z' body δ M P)
    (hs : X.stack = X.env :: X.outer := by rfl) (hf : X.env.frame = some X.env.locals := by rfl) : DS1 X Z (.Try body [.ExceptHandler (some (.Name x np)) none (b0 :: suite) pos'] [] [] pos) δ M P :=
  ds_try xt (.cons hc .nil) (fun Z' pn xe xt' ho => hb Z' pn xe xt' ho) hs hf
end
end DL
namespace DL
open PySem L2
section
variable {P : Program} {w : World} {K : PySem.W.Frag} {mg : Str → Option Value} {base : Heap} {j k : Nat} {f : Addr} {S S' : DSp}
/-- the rule for def f(*v) -/
theorem fnD_star {x qual pv : Str} {st : Stmt} {fd : FuncData} {N : List Str} {k : Nat} (F : FunD K x qual (defArgs st) (defBody st) (defScope st) [] [] f fd) (Sc : FnScope N [pv] (defScope st))
    (hb : ∀ (kV doc pm : Value) (an : Option Addr) (cdv ct : Value) (rest : List Value), bindArgs (PySem.W.fnOf x qual (defArgs st) (defBody st) (defScope st) .none kV doc pm an cdv ct) ⟨rest, []⟩ = (newTuple rest >>= fun t => pure [(pv, t)]))
    (body : ∀ (cdv : Value) (A : Around) (outer : List Env) (s : Shared) (H : Hp) (E : XK) (Z : Ent) (ds : List D) (M : Mem) (post : DK) (xp : DXK), Room k (A.deeper (PyProof.Rows.envOfC qual (defScope st) s.heap.objs.size f cdv)) → S ds M post xp → Z.M = M →
      XT (bodyX P w K mg base N qual (defScope st) f cdv A outer s H E) Z (fun C ns es _ M => xp C ns es M) →
      PassesOwn (model P w) (bodyX P w K mg base N qual (defScope st) f cdv A outer s H E).A (bodyX P w K mg base N qual (defScope st) f cdv A outer s H E).env (bodyX P w K mg base N qual (defScope st) f cdv A outer s H E).xe →
      DS (bodyX P w K mg base N qual (defScope st) f cdv A outer s H E) Z (defBody st) ([.tup ds].map some ++ List.replicate (N.length - 1) none) M { nx := fun _ M' => post .non M', rt := post }) :
    FnD P w K mg base (k + 1) f (fun ds M post xp => ds.length ≤ sizeLine ∧ S ds M post xp) := by
  have hpl : 1 ≤ N.length := by have := congrArg List.length Sc.pre; rw [List.length_take] at this; simp at this; omega
  obtain ⟨oc, od, dV, kV, doc, pm, an, cdv, ct, osl, rfl, lk, hcd, hD, hK⟩ := F.ex
  have eD : dV = .none := by
    rcases hD with ⟨_, e⟩ | ⟨e, _⟩
    · exact e
    · exact absurd rfl e
  subst eD
  have R := StX.fn_star (CX := L2.CX P w) (P := P) (w := w) (mg := mg) (base := base) (k := k) (ps := []) (pv := pv) (sp := fun vs H Q E => ∃ (xs : List V) (p : Addr) (H0 : Hp), vs = [V.ref p] ∧ H0 p = none ∧ H = upd H0 p (.tup xs) ∧ spOf K (fun ds M post xp => S ds M post xp) xs H0 Q E) lk hcd Sc StX.cxUp (fun us rest hl => by
    match us, hl with
    | [], _ => exact hb _ _ _ _ _ _ rest) (fun A outer s H vs Q E hr h => by
    obtain ⟨xs, p, H0, rfl, hp, rfl, ds, W, M, post, xp, h1, h2, r, hs, hq, hx⟩ := h
    refine ⟨wSs _ _, pss_w, ?_⟩
    have st : Step W H0 (upd W p (.tup xs)) (upd H0 p (.tup xs)) := Step.new h1 hp
    have a0 : At K ⟨W, M, H0⟩ [] M W [] H0 := ⟨Fr.refl, h1, fun i d e => (by cases e), rfl, h2⟩
    have a1 := a0.step st
    have rr : Reps K (upd W p (.tup xs)) [V.ref p] [D.tup ds] := .one (.tup (SqT.of upd_same) (r.mono st.w))
    have back : ∀ {W' : Hp} {M' : Mem} {H' : Hp}, Fr (upd W p (.tup xs)) M (upd H0 p (.tup xs)) W' M' H' → Fr W M H0 W' M' H' := fun f => a1.fr.trans f
    refine body cdv A outer s _ E ⟨upd W p (.tup xs), M, upd H0 p (.tup xs)⟩ ds M post xp hr hs rfl ⟨fun cls d _ H => E cls d H, takes_of rfl rfl rfl rfl, fun C od ns es δ M' W' σ H' a r q => hx C od ns es W' M' H' (back a.fr) a.same a.cel r q⟩ (passes_of rfl) _ (L2.start N [V.ref p]) _ (start_at a1.same a1.cel rr hpl) _
      ⟨fun δ M' W' σ H' a _ q => hq .non .non W' M' H' (back a.fr) a.same a.cel .non q, fun v d δ M' W' σ H' a _ r q => hq v d W' M' H' (back a.fr) a.same a.cel r q, fun _ _ _ _ _ _ _ z => z, fun _ _ _ _ _ _ _ z => z⟩)
  refine FnR.imp R fun vs H Q E h => ?_
  obtain ⟨ds, W, M, post, xp, h1, h2, r, ⟨hz, hs⟩, hq, hx⟩ := h
  exact ⟨[], vs, rfl, rfl, by rw [r.length]; exact hz, fun p hp => ⟨vs, p, H, rfl, hp, rfl, ds, W, M, post, xp, h1, h2, r, hs, hq, hx⟩⟩
end
section
variable {X : Cx} {Z : Ent} {e a b c : Expr} {es : List Expr} {δ : Dl} {M : Mem} {post : DK} {pos : Pos} {p : Bool → Mem → Prop}
theorem ro_isB {K : PySem.W.Frag} {i j : Bool} : RO K M rIsB (.bl i) (.bl j) (.bl (decide (i = j))) := fun W H v u Q sm _ rx ry k => by
  cases rx; cases ry
  exact ⟨i, j, rfl, rfl, k _ W H (Step.refl sm) (.bl _)⟩
theorem ro_notB {K : PySem.W.Frag} {i j : Bool} : RO K M rNotB (.bl i) (.bl j) (.bl (!decide (i = j))) := fun W H v u Q sm _ rx ry k => by
  cases rx; cases ry
  exact ⟨i, j, rfl, rfl, k _ W H (Step.refl sm) (.bl _)⟩
theorem dt_isB (h : DE X Z a δ M fun x M1 => DE X Z b δ M1 fun y M2 => ∃ i j, x = .bl i ∧ y = .bl j ∧ p (decide (i = j)) M2) : DT X Z (.Compare a [.Is] [b] pos) δ M p :=
  dt_cmp op_isBl (nomark _) (h.imp fun x M1 h1 => h1.imp fun y M2 ⟨i, j, ex, ey, q⟩ => by subst ex ey; exact ⟨_, ro_isB, q⟩)
theorem dt_notB (h : DE X Z a δ M fun x M1 => DE X Z b δ M1 fun y M2 => ∃ i j, x = .bl i ∧ y = .bl j ∧ p (!decide (i = j)) M2) : DT X Z (.Compare a [.IsNot] [b] pos) δ M p :=
  dt_cmp op_notBl (nomark _) (h.imp fun x M1 h1 => h1.imp fun y M2 ⟨i, j, ex, ey, q⟩ => by subst ex ey; exact ⟨_, ro_notB, q⟩)
/-- {} -/
theorem de_dict0 (h : post (.dK [] []) M) : DE X Z (.Dict [] [] pos) δ M post := fun W σ H A Q k =>
  of_pe pe_dnewK fun p hn =>
    have st := Step.new (o := .dK []) A.same hn
    k _ _ M _ _ (A.step st) st.w (.dK (ks := []) (xs := []) upd_same rfl .nil) h
end
end DL
namespace DL
open PySem L2
/-! points -/
abbrev pt (x y : Int) : D := .tup [.int x, .int y]
def isPt : D → Bool
  | .tup [a, b] => a.isInt && b.isInt
  | _ => false
/-- a direction: a point, not (0, 0) -/
def isDir : D → Bool
  | .tup [.int a, .int b] => !(decide (a = 0) && decide (b = 0))
  | _ => false
/-- a value whose kind is told, and its items' kinds, if it is a tuple -/
def NamedV (d : D) : Prop := Named d ∧ ∀ l, d = .tup l → l.length ≤ sizeLine ∧ ∀ x ∈ l, Named x
theorem namedV_pt {x y : Int} : NamedV (pt x y) := ⟨rfl, fun l e => by
  cases e
  refine ⟨szl, fun x hx => ?_⟩
  rcases List.mem_cons.mp hx with rfl | hx
  · rfl
  rcases List.mem_cons.mp hx with rfl | hx
  · rfl
  cases hx⟩
theorem isPt_inv {d : D} (h : isPt d = true) : ∃ x y, d = pt x y := by
  match d, h with
  | .tup [a, b], h =>
    obtain ⟨h1, h2⟩ := Bool.and_eq_true_iff.mp (show (a.isInt && b.isInt) = true from h)
    cases a <;> first | (cases h1) | skip
    cases b <;> first | (cases h2) | skip
    exact ⟨_, _, rfl⟩
theorem pd_pt {n : Nat} {x y : Int} : Pd (n + 1) (pt x y) := pd_tup fun d h => by
  rcases List.mem_cons.mp h with rfl | h
  · exact pd_int
  rcases List.mem_cons.mp h with rfl | h
  · exact pd_int
  cases h
theorem eqv_pt (a b c d : Int) : PyData.eqv (pt a b).py (pt c d).py = (decide (a = c) && decide (b = d)) := by
  have e : PyData.eqv (pt a b).py (pt c d).py = ((a == c) && ((b == d) && true)) := by simp only [pt, D.py, D.pys, PyData.eqv, PyData.eqvAll]
  rw [e, Bool.and_true]
  rfl
theorem tup_or (d : D) (hn : Named d) : (∃ l, d = .tup l) ∨ (kitB (d.tyN.getD "") "tuple" = some false ∧ isPt d = false ∧ isDir d = false) := by
  have k1 : kitB "NoneType" "tuple" = some false := by decide +kernel
  have k2 : kitB "bool" "tuple" = some false := by decide +kernel
  have k3 : kitB "int" "tuple" = some false := by decide +kernel
  have k4 : kitB "str" "tuple" = some false := by decide +kernel
  have k5 : kitB "list" "tuple" = some false := by decide +kernel
  have k6 : kitB "dict" "tuple" = some false := by decide +kernel
  cases d with
  | tup l => exact .inl ⟨_, rfl⟩
  | non => exact .inr ⟨k1, rfl, rfl⟩
  | bl b => exact .inr ⟨k2, rfl, rfl⟩
  | int i => exact .inr ⟨k3, rfl, rfl⟩
  | str i => exact .inr ⟨k4, rfl, rfl⟩
  | lst i => exact .inr ⟨k5, rfl, rfl⟩
  | dK i j => exact .inr ⟨k6, rfl, rfl⟩
  | _ => cases hn
theorem isDir_no {d : D} (h : isPt d = false) : isDir d = false := by
  cases q : isDir d with
  | false => rfl
  | true =>
    exfalso
    match d, q, h with
    | .tup [.int a, .int b], _, h => cases h
theorem eqPt {a b c d : Int} {A B : Prop} (h1 : a = c → b = d → A) (h2 : ¬ (a = c ∧ b = d) → B) : PlainD (pt a b) ∧ PlainD (pt c d) ∧ if PyData.eqv (pt a b).py (pt c d).py = true then A else B := by
  refine ⟨(pd_pt (n := 0)).ok, (pd_pt (n := 0)).ok, ?_⟩
  rw [eqv_pt]
  by_cases q : a = c ∧ b = d
  · rw [decide_eq_true q.1, decide_eq_true q.2, if_pos (by decide)]
    exact h1 q.1 q.2
  · rw [if_neg (by simp; omega)]
    exact h2 q
theorem nePt {a b c d : Int} {A B : Prop} (h1 : ¬ (a = c ∧ b = d) → A) (h2 : a = c → b = d → B) : PlainD (pt a b) ∧ PlainD (pt c d) ∧ if (!PyData.eqv (pt a b).py (pt c d).py) = true then A else B := by
  refine ⟨(pd_pt (n := 0)).ok, (pd_pt (n := 0)).ok, ?_⟩
  rw [eqv_pt]
  by_cases q : a = c ∧ b = d
  · rw [decide_eq_true q.1, decide_eq_true q.2, if_neg (by decide)]
    exact h2 q.1 q.2
  · rw [if_pos (by simp; omega)]
    exact h1 q
def spIsP : DSp := fun ds M post _ => ∃ d, ds = [d] ∧ NamedV d ∧ post (.bl (isPt d)) M
def spCkP (C : Addr) : DSp := fun ds M post xp => ∃ d, ds = [d] ∧ NamedV d ∧ if isPt d = true then post .non M else xp C [] [] M
def spCkD (C : Addr) : DSp := fun ds M post xp => ∃ d, ds = [d] ∧ NamedV d ∧ if isDir d = true then post .non M else xp C [] [] M
def spCrossOf : DSp := fun ds M post _ => ∃ a b c d : Int, ds = [pt a b, pt c d] ∧ (FS.Bt 2000 a ∧ FS.Bt 2000 b ∧ FS.Bt 2000 c ∧ FS.Bt 2000 d) ∧ post (.int (a * d - b * c)) M
def spContOf : DSp := fun ds M post _ => ∃ a b : Int, ds = [pt a b] ∧ post (.int (Int.gcd a b)) M
def spCross (C : Addr) : DSp := fun ds M post xp => (∃ a b c d : Int, ds = [pt a b, pt c d] ∧ (FS.Bt 2000 a ∧ FS.Bt 2000 b ∧ FS.Bt 2000 c ∧ FS.Bt 2000 d) ∧ post (.int (a * d - b * c)) M) ∨ ∃ u v, ds = [u, v] ∧ (NamedV u ∧ NamedV v) ∧ (isPt u && isPt v) = false ∧ xp C [] [] M
def spCont (C : Addr) : DSp := fun ds M post xp => (∃ a b : Int, ds = [pt a b] ∧ post (.int (Int.gcd a b)) M) ∨ ∃ u, ds = [u] ∧ NamedV u ∧ isPt u = false ∧ xp C [] [] M
def spPrim (C : Addr) : DSp := fun ds M post xp => (∃ a b : Int, ds = [pt a b] ∧ (¬ (a = 0 ∧ b = 0) ∧ Int.gcd a b < 2 ^ 2000) ∧ post (pt (a / (Int.gcd a b : Int)) (b / (Int.gcd a b : Int))) M) ∨ ∃ u, ds = [u] ∧ NamedV u ∧ isDir u = false ∧ xp C [] [] M
end DL
namespace DL
open PySem L2
/-! ### objects -/
theorem zip_look {K : PySem.W.Frag} {W : Hp} {f : Str} {d : D} : ∀ {ns : List Str} {xs : List V} {ds : List D}, Reps K W xs ds → (ns.zip ds).lookup f = some d → ∃ v, (ns.zip xs).lookup f = some v ∧ Rep K W v d
  | [], _, _, _, h => by cases h
  | _ :: _, _, _, .nil, h => by cases h
  | n :: ns, _, _, .cons (x := x) (d := e) hx r, h => by
    rw [List.zip_cons_cons, List.lookup_cons] at h ⊢
    cases q : f == n with
    | true => rw [q] at h; cases h; exact ⟨x, rfl, hx⟩
    | false => rw [q] at h; exact zip_look r h
theorem zip_none {K : PySem.W.Frag} {W : Hp} {f : Str} : ∀ {ns : List Str} {xs : List V} {ds : List D}, Reps K W xs ds → (ns.zip ds).lookup f = none → (ns.zip xs).lookup f = none
  | [], _, _, _, _ => rfl
  | _ :: _, _, _, .nil, _ => rfl
  | n :: ns, _, _, .cons (x := x) (d := e) hx r, h => by
    rw [List.zip_cons_cons, List.lookup_cons] at h ⊢
    cases q : f == n with
    | true => rw [q] at h; cases h
    | false => rw [q] at h; exact zip_none r h
theorem putF_new {f : Str} {v : V} : ∀ {fs : List (Str × V)}, fs.lookup f = none → putF f v fs = fs ++ [(f, v)]
  | [], _ => rfl
  | (g, x) :: r, h => by
    rw [List.lookup_cons] at h
    cases q : f == g with
    | true => rw [q] at h; cases h
    | false =>
      rw [q] at h
      have ne : ¬ g = f := fun z => by rw [z] at q; simp at q
      show (if g = f then _ else _) = _
      rw [if_neg ne, putF_new h]
      rfl
/-- an object of the class at C with the fields ns: one that stays as it is, one of the store -/
def IsIns (M : Mem) (C : Addr) (ns : List Str) (l : List D) (d : D) : Prop := d = .ins C ns l ∨ ∃ p, d = .adr p ∧ M p = some (.ins C ns l)
theorem isIns_at {K : PySem.W.Frag} {Z : Ent} {δ : Dl} {M : Mem} {W : Hp} {σ : St} {H : Hp} {v : V} {d : D} {C : Addr} {ns : List Str} {l : List D} (A : At K Z δ M W σ H) (r : Rep K W v d) (h : IsIns M C ns l d) :
    ∃ a dx xs, v = .ref a ∧ H a = some (.ins C dx (ns.zip xs)) ∧ ns.length = xs.length ∧ Reps K W xs l := by
  rcases h with rfl | ⟨p, rfl, hp⟩
  · obtain ⟨a, dx, xs, e, h1, h2, h3⟩ := r.ins_inv
    exact ⟨a, dx, xs, e, A.same _ _ h1, h2, h3⟩
  · have e := r.adr_inv
    subst e
    obtain ⟨_, ho, h1, h2⟩ := A.cel p _ hp
    cases h2 with
    | ins hl rs => exact ⟨p, _, _, rfl, h1, hl, rs⟩
theorem At.poke {K : PySem.W.Frag} {Z : Ent} {δ : Dl} {M : Mem} {W : Hp} {σ : St} {H : Hp} (A : At K Z δ M W σ H) {p : Addr} {o : HO} (h : H p = none) : At K Z δ M W σ (upd H p o) :=
  ⟨A.fr.poke (A.fr.back h), fun b u e => by
    have : b ≠ p := fun z => by rw [z, A.same.free h] at e; cases e
    rw [upd_ne this]; exact A.same _ _ e, A.env, A.len, fun b u e => by
    obtain ⟨q1, ho, q2, q3⟩ := A.cel b u e
    have : b ≠ p := fun z => by rw [z, h] at q2; cases q2
    exact ⟨q1, ho, by rw [upd_ne this]; exact q2, q3⟩⟩
section
variable {X : Cx} {Z : Ent} {e o : Expr} {es : List Expr} {δ : Dl} {M : Mem} {post : DK} {pos p apos pos' : Pos} {k : Nat} {f g C : Addr} {S : DSp} {x m fl : Str} {w : DXW} {P : DEnds}
/-- e.f -/
theorem de_fld (h : DE X Z e δ M fun d M1 => ∃ C ns l v, IsIns M1 C ns l d ∧ Cls X.K C ∧ NoAttr X.K C fl ∧ (ns.zip l).lookup fl = some v ∧ post v M1) (hb : attributeBase e fl X.env (eval e X.env) = eval e X.env := by rfl) : DE X Z (.Attribute e fl pos) δ M post := fun W σ H A Q q =>
  of_pe (pe_fld pe_w hb) (h W σ H A _ fun v d M1 W1 H1 A1 s1 r1 ⟨C, ns, l, z, hi, c, n, hl, hp⟩ => by
    obtain ⟨a, dx, xs, e, h1, h2, h3⟩ := isIns_at A1 r1 hi
    obtain ⟨u, h4, h5⟩ := zip_look h3 hl
    exact ⟨a, C, dx, _, u, e, h1, c, n, h4, q u z M1 W1 H1 A1 s1 h5 hp⟩)
/-- e.f = value, a new field of an object of the store -/
theorem ds_fld {value : Expr} (h : DE X Z value δ M fun d M1 => DE X Z o δ M1 fun y M2 => ∃ p C ns l, y = .adr p ∧ M2 p = some (.ins C ns l) ∧ Cls X.K C ∧ NoAttr X.K C fl ∧ (ns.zip l).lookup fl = none ∧ ns.length < 1000 ∧ P.nx δ (M2.set p (.ins C (ns ++ [fl]) (l ++ [d]))))
    (hs : swapsWith value (some (.Attribute o fl pos')) pos.line X.env = pure false := by rfl) : DS1 X Z (.Assign [.Attribute o fl pos'] value pos) δ M P := fun W σ H A Dn q =>
  of_ps (ps_fld pe_w pe_w hs) (h W σ H A _ fun v d M1 W1 H1 A1 s1 r1 h1 => h1 W1 σ H1 A1 _ fun u y M2 W2 H2 A2 s2 r2 ⟨p, C, ns, l, ey, hm, c, n, hl, hz, hp⟩ => by
    subst ey
    obtain ⟨a, dx, xs, e, g1, g2, g3⟩ := isIns_at A2 r2 (.inr ⟨p, rfl, hm⟩)
    have e1 := r2.adr_inv
    rw [e1] at e
    cases e
    refine ⟨p, C, dx, _, e1, g1, c, n, ?_, ?_⟩
    · rw [List.length_zip, ← g2, Nat.min_self]
      exact hz
    · rw [putF_new (zip_none g3 hl), show ns.zip xs ++ [(fl, v)] = (ns ++ [fl]).zip (xs ++ [v]) from by rw [List.zip_append g2]; rfl]
      exact q.nx δ _ W2 σ _ (A2.write hm (.ins (by rw [List.length_append, List.length_append, g2]; rfl) (g3.append (.one (r1.mono s2))))) (s1.trans s2) hp)
/-! methods -/
def tMethRS (C : Addr) (m : Str) (sp : Sp) (E : St → XK) (ta : TE) (t : TA) : TE := fun σ H Q => ta σ H fun x H1 => ∃ a dx fs, x = .ref a ∧ H1 a = some (.ins C dx fs) ∧ fs.lookup m = none ∧ t σ H1 fun vs H2 => sp (x :: vs) H2 Q (E σ)
theorem pe_methRS {CX : CXT} {sp : Sp} {E : St → XK} {ta : TE} {t : TA} {pl : Sem Bool} (he : PE X o ta) (c : Cls X.K C) (hm : Meth X.K C m f) (F : FnR X.prog X.w X.K X.mg X.base CX k f sp) (hr : Room k X.A) (hx : ∀ σ, PassesAt CX X σ (E σ)) (ha : PA X (e :: es) t)
    (hst : starEach (e :: es) X.env = (false, eval e X.env) :: starEach es X.env) (hpl : (backTo pos (starEach es X.env)).any (·.1) = false)
    (ht : eval (.Call (.Attribute o m apos) (e :: es) [] pos) X.env = (do
      let ov ← eval o X.env
      standAt apos.atName
      let (f, first) ← holding [ov] (getMethod ov m pl)
      callWith pos f first (backTo pos (starEach (e :: es) X.env)) (backToKw pos (keywordEach [] X.env)))) : PE X (.Call (.Attribute o m apos) (e :: es) [] pos) (tMethRS C m sp E ta t) := by
  refine ⟨fun pins s σ H Q I h => ?_⟩
  refine PySem.W.methodCall_KW (pl := pl) (thn (he.run pins s σ H _ I h) fun u s1 ⟨x, H1, I1, rx, a, dx, fs, ex, ea, l, q⟩ => ?_) ht
  subst ex
  obtain rfl : u = Value.ref a := rx
  refine getmeth_ok I1 ea c hm l ?_
  refine PySem.W.callWith_K (first := [.ref a]) (h₀ := X.base) I.ok.mod.kin hm.kp (thn (ha.run pos pins s1 σ H1 _ I1 q) fun us s2 ⟨vs, H2, I2, r, q2⟩ => ⟨I2.kIn, ?_⟩) hst hpl
  exact wpAny_call (run_fnRS (us := .ref a :: us) (vs := .ref a :: vs) F hr (hx σ) I2 (.cons rfl r) q2)
theorem pe_methRS0 {CX : CXT} {sp : Sp} {E : St → XK} {ta : TE} {pl : Sem Bool} (he : PE X o ta) (c : Cls X.K C) (hm : Meth X.K C m f) (F : FnR X.prog X.w X.K X.mg X.base CX k f sp) (hr : Room k X.A) (hx : ∀ σ, PassesAt CX X σ (E σ))
    (ht : eval (.Call (.Attribute o m apos) [] [] pos) X.env = (do
      let ov ← eval o X.env
      standAt apos.atName
      let (f, first) ← holding [ov] (getMethod ov m pl)
      callWith pos f first (backTo pos (starEach [] X.env)) (backToKw pos (keywordEach [] X.env)))) : PE X (.Call (.Attribute o m apos) [] [] pos) (tMethRS C m sp E ta tNil) := by
  refine ⟨fun pins s σ H Q I h => ?_⟩
  refine PySem.W.methodCall_KW (pl := pl) (thn (he.run pins s σ H _ I h) fun u s1 ⟨x, H1, I1, rx, a, dx, fs, ex, ea, l, q⟩ => ?_) ht
  subst ex
  obtain rfl : u = Value.ref a := rx
  refine getmeth_ok I1 ea c hm l ?_
  exact PySem.W.callWith_K0 (first := [.ref a]) I1.kIn hm.kp (wpAny_call (run_fnRS (us := [.ref a]) (vs := [.ref a]) F hr (hx σ) I1 (.cons rfl .nil) q))
/-- o.m(e, ..) -/
theorem de_meth {pl : Sem Bool} (c : Cls X.K C) (hm : Meth X.K C m f) (F : FnD X.prog X.w X.K X.mg X.base k f S) (hr : Room k X.A) (xt : XT X Z w) (h : DE X Z o δ M fun d M1 => ∃ ns l, IsIns M1 C ns l d ∧ (ns.zip l).lookup m = none ∧ DA X Z (e :: es) δ M1 fun ds M2 => S (d :: ds) M2 post (fun C ns es M' => w C ns es δ M'))
    (hst : starEach (e :: es) X.env = (false, eval e X.env) :: starEach es X.env := by rfl) (hpl : (backTo pos (starEach es X.env)).any (·.1) = false := by rfl)
    (ht : eval (.Call (.Attribute o m apos) (e :: es) [] pos) X.env = (do
      let ov ← eval o X.env
      standAt apos.atName
      let (f, first) ← holding [ov] (getMethod ov m pl)
      callWith pos f first (backTo pos (starEach (e :: es) X.env)) (backToKw pos (keywordEach [] X.env))) := by rfl) : DE X Z (.Call (.Attribute o m apos) (e :: es) [] pos) δ M post := fun W σ H A Q q => by
  obtain ⟨Wx, tk, xk⟩ := xt
  refine of_pe (pe_methRS pe_w c hm F hr (fun σ => passAt tk σ) pa_w hst hpl ht) (h W σ H A _ fun v d M1 W1 H1 A1 s1 r1 ⟨ns, l, hi, hl, h2⟩ => ?_)
  obtain ⟨a, dx, xs, ev, g1, g2, g3⟩ := isIns_at A1 r1 hi
  exact ⟨a, dx, _, ev, g1, zip_none g3 hl, h2 W1 σ H1 A1 _ fun vs ds M2 W2 H2 A2 s2 r2 hS => call_data A2 (s1.trans s2) (.cons (r1.mono s2) r2) hS xk q⟩
/-- o.m() -/
theorem de_meth0 {pl : Sem Bool} (c : Cls X.K C) (hm : Meth X.K C m f) (F : FnD X.prog X.w X.K X.mg X.base k f S) (hr : Room k X.A) (xt : XT X Z w) (h : DE X Z o δ M fun d M1 => ∃ ns l, IsIns M1 C ns l d ∧ (ns.zip l).lookup m = none ∧ S [d] M1 post (fun C ns es M' => w C ns es δ M'))
    (ht : eval (.Call (.Attribute o m apos) [] [] pos) X.env = (do
      let ov ← eval o X.env
      standAt apos.atName
      let (f, first) ← holding [ov] (getMethod ov m pl)
      callWith pos f first (backTo pos (starEach [] X.env)) (backToKw pos (keywordEach [] X.env))) := by rfl) : DE X Z (.Call (.Attribute o m apos) [] [] pos) δ M post := fun W σ H A Q q => by
  obtain ⟨Wx, tk, xk⟩ := xt
  refine of_pe (pe_methRS0 pe_w c hm F hr (fun σ => passAt tk σ) ht) (h W σ H A _ fun v d M1 W1 H1 A1 s1 r1 ⟨ns, l, hi, hl, hS⟩ => ?_)
  obtain ⟨a, dx, xs, ev, g1, g2, g3⟩ := isIns_at A1 r1 hi
  exact ⟨a, dx, _, ev, g1, zip_none g3 hl, call_data A1 s1 (.one r1) hS xk q⟩
/-! making -/
def tMakeRS (C : Addr) (sp : Sp) (E : St → XK) (t : TA) : TE := fun σ H Q => t σ H fun vs H1 => ∀ x dx, H1 x = Option.none → H1 dx = Option.none → dx ≠ x →
  sp (V.ref x :: vs) (upd (upd H1 dx (.own x)) x (.ins C dx [])) (fun v H2 => v = .non ∧ Q (.ref x) H2) (E σ)
theorem run_makeRS {CX : CXT} {sp : Sp} {E : XK} {pins : List (Addr × Obj)} {σ : L2.St} {H : Hp} {s : Shared} {Q : VK} {us : List Value} {vs : List V} (M : Mk X.K C f) (F : FnR X.prog X.w X.K X.mg X.base CX k f sp) (hr : Room (k + 1) X.A) (hx : PassesAt CX X σ E) (I : Inv X pins σ H s) (r : Vals vs us)
    (h : ∀ x dx, H x = Option.none → H dx = Option.none → dx ≠ x → sp (V.ref x :: vs) (upd (upd H dx (.own x)) x (.ins C dx [])) (fun v H2 => v = .non ∧ Q (.ref x) H2) E) :
    wpAny (model X.prog X.w) X.A (call (.ref C) us) (EP X pins σ Q) X.xe s := by
  have hq := h (s.heap.objs.size + 1) s.heap.objs.size (I.hok.fresh (Nat.le_succ _)) (I.hok.fresh (Nat.le_refl _)) (Nat.ne_of_lt (Nat.lt_succ_self _))
  have I2 := Inv.made (C := C) I
  have r2 : Vals (V.ref (s.heap.objs.size + 1) :: vs) (Value.ref (s.heap.objs.size + 1) :: us) := .cons rfl r
  refine wpAny_call (make_map (f := f) I.kIn M.makes M.init (beq_iff_eq.mp M.fn) (codeAny_mono (F _ X.stack _ _ (Value.ref (s.heap.objs.size + 1) :: us) _ _ E (hr.make C us []) (I2.env0.make C us []) r2 hq) fun r s' hq' => ?_))
  cases r with
  | error e => exact hx pins _ _ e s' I2 hq'
  | ok fl =>
    cases fl with
    | ret u =>
      obtain ⟨v, H', I3, rv, ev, q3⟩ := I2.after hq'
      subst ev
      exact ⟨rv, ⟨V.ref (s.heap.objs.size + 1), H', I3, rfl, q3⟩⟩
    | next => exact False.elim hq'
    | brk => exact False.elim hq'
    | cont => exact False.elim hq'
theorem pe_makeRS {CX : CXT} {sp : Sp} {E : St → XK} {t : TA} (M : Mk X.K C f) (F : FnR X.prog X.w X.K X.mg X.base CX k f sp) (hr : Room (k + 1) X.A) (hg : Gl X x) (hm : X.mg x = some (.ref C)) (hx : ∀ σ, PassesAt CX X σ (E σ)) (ha : PA X (e :: es) t) (hdb : (x == ("__debug__" : Str)) = false)
    (he : starEach (e :: es) X.env = (false, eval e X.env) :: starEach es X.env) (hpl : (backTo pos (starEach es X.env)).any (·.1) = false) : PE X (.Call (.Name x p) (e :: es) [] pos) (tMakeRS C sp E t) := by
  refine ⟨fun pins s σ H Q I h => ?_⟩
  refine wpAny_Call_Name_kw (ld_glob I hg hm ?_ hdb)
  refine PySem.W.callWith_K (h₀ := X.base) I.ok.mod.kin M.kp (thn (ha.run pos pins s σ H _ I h) fun us s1 ⟨vs, H1, I1, r, q⟩ => ⟨I1.kIn, ?_⟩) he hpl
  exact run_makeRS M F hr (hx σ) I1 r q
theorem make_data {vs : List V} {ds : List D} {M1 : Mem} {W W1 : Hp} {σ : St} {H1 : Hp} {Wx : WX} {Q : VK} (A1 : At X.K Z δ M1 W1 σ H1) (s1 : Same W W1) (r1 : Reps X.K W1 vs ds)
    (hS : ∀ x, M1 x = none → S (.adr x :: ds) (M1.set x (.ins C [] [])) (fun d M2 => d = .non ∧ ∃ ns l, M2 x = some (.ins C ns l) ∧ post (.ins C ns l) (M2.del x)) (fun C ns es M' => w C ns es δ M'))
    (xt : ∀ C od ns es δ M W σ H, At X.K Z δ M W σ H → XRp X.K W H od ns es → w C ns es δ M → Wx (.ref C) od σ H) (q : ∀ v d M' W' H', At X.K Z δ M' W' σ H' → Same W W' → Rep X.K W' v d → post d M' → Q v H') (x dx : Addr) (hx : H1 x = none) (hdx : H1 dx = none) (hne : dx ≠ x) :
    spOf X.K S (.ref x :: vs) (upd (upd H1 dx (.own x)) x (.ins C dx [])) (fun v H2 => v = .non ∧ Q (.ref x) H2) (WE Wx σ) := by
  have A2 : At X.K Z δ M1 W1 σ (upd H1 dx (.own x)) := A1.poke hdx
  have A3 := A2.alloc (p := x) (o := .ins C [] []) (ho := .ins C dx []) (by rw [upd_ne hne.symm]; exact hx) (.ins (ns := []) (xs := []) rfl .nil)
  refine call_data A3 s1 (.cons (.adr x) r1) (hS x (A1.mfresh hx)) xt fun v d M' W' H' A' s' r' hp => ?_
  obtain ⟨ed, ns, l, hm, hp⟩ := hp
  subst ed
  refine ⟨r'.non_inv, ?_⟩
  obtain ⟨_, ho, h1, h2⟩ := A'.cel x _ hm
  cases h2 with
  | ins hl rs =>
    obtain ⟨A4, sw⟩ := A'.freeze hm (A1.fr.back hx) h1
    exact q _ _ _ _ _ A4 (s'.trans sw) (.ins upd_same hl (rs.mono sw)) hp
/-- X(e, ..), X an own class with __init__ -/
theorem de_make (Mk_ : Mk X.K C f) (F : FnD X.prog X.w X.K X.mg X.base k f S) (hr : Room (k + 1) X.A) (hm : X.mg x = some (.ref C)) (xt : XT X Z w)
    (h : DA X Z (e :: es) δ M fun ds M1 => ∀ x, M1 x = none → S (.adr x :: ds) (M1.set x (.ins C [] [])) (fun d M2 => d = .non ∧ ∃ ns l, M2 x = some (.ins C ns l) ∧ post (.ins C ns l) (M2.del x)) (fun C ns es M' => w C ns es δ M')) (hg : Gl X x := by rfl)
    (hdb : (x == ("__debug__" : Str)) = false := by decide) (he : starEach (e :: es) X.env = (false, eval e X.env) :: starEach es X.env := by rfl) (hpl : (backTo pos (starEach es X.env)).any (·.1) = false := by rfl) : DE X Z (.Call (.Name x p) (e :: es) [] pos) δ M post := fun W σ H A Q q => by
  obtain ⟨Wx, tk, xk⟩ := xt
  exact of_pe (pe_makeRS Mk_ F hr hg hm (fun σ => passAt tk σ) pa_w hdb he hpl) (h W σ H A _ fun vs ds M1 W1 H1 A1 s1 r1 hS => fun x dx hx hdx hne => make_data A1 s1 r1 hS xk q x dx hx hdx hne)
end
end DL
namespace DL
open PySem L2
theorem cx_noA {P : Program} {w : World} {outer : List Env} {H : Hp} {s s' : Shared} {e : Value} (h : L2.CX P w outer H s (fun _ _ _ => False) e s') : False := by
  obtain ⟨_, _, _, _, _, _, _, _, _, _, _, _, z⟩ := h
  exact z
section
variable {X : Cx} {Z : Ent} {e o a b : Expr} {es : List Expr} {δ : Dl} {M : Mem} {post : DK} {pos p apos pos' : Pos} {k n : Nat} {f g pp C : Addr} {S : DSp} {x m fl : Str} {w : DXW} {P : DEnds}
/-! ### a property -/
theorem getprop_okR {sp : Sp} {dx ad : Addr} {fs : List (Str × V)} {pins : List (Addr × Obj)} {σ : St} {H : Hp} {s : Shared} {Q : VK} {b : Bool} {E' : Value → Shared → Prop} (I : Inv X pins σ H s) (ea : H ad = some (.ins C dx fs)) (c : Cls X.K C) (hp : PropOf X.K C fl pp g)
    (F : FnR X.prog X.w X.K X.mg X.base (L2.CX X.prog X.w) k g sp) (hr : Room (k + 1) X.A) (h : sp [.ref ad] H Q (fun _ _ _ => False)) : wpAny (model X.prog X.w) X.A (getAttr (.ref ad) fl b) (EP X pins σ Q) E' s := by
  obtain ⟨mA, O, _, _, _, _⟩ := ins_get I.hok ea
  obtain ⟨od, J, _⟩ := O.look
  obtain ⟨rest, hrec⟩ := hp.rec_
  have I1 := I.tok (s.toks + 1)
  have hc : (PySem.W.clsIn X.K C).isSome = true := by
    obtain ⟨cd, hc, _⟩ := PySem.W.any_some c.hd
    rw [hc]
    rfl
  refine PySem.W.get_bind I.kIn J (PySem.W.plainGet_of (c.get fl)).1 (PySem.W.findObj_data hc hp.at_ hp.get hp.tak) (PySem.W.plainGet_of (c.get fl)).2 (wpAny_call (PySem.W.prop_get (s := { s with toks := s.toks + 1 }) I.kIn hrec ?_))
  refine codeAny_mono (F X.A.in1 X.stack { s with toks := s.toks + 1 } H [.ref ad] [.ref ad] Q (fun _ _ _ => False) hr.in1 I1.env0.in1 (.cons rfl .nil) h) fun r s' hq => ?_
  cases r with
  | error er => exact (cx_noA hq).elim
  | ok fl =>
    cases fl with
    | ret u =>
      obtain ⟨v, H', I3, rv, q3⟩ := I1.after hq
      show wpAny _ _ (handedOut u) _ _ _
      rw [PySem.W.handedOut_of (handed_of rv)]
      exact wpAny_pure ⟨v, H', I3, rv, q3⟩
    | next => exact False.elim hq
    | brk => exact False.elim hq
    | cont => exact False.elim hq
theorem pe_propR {sp : Sp} {ta : TE} (he : PE X e ta) (c : Cls X.K C) (hp : PropOf X.K C fl pp g) (F : FnR X.prog X.w X.K X.mg X.base (L2.CX X.prog X.w) k g sp) (hr : Room (k + 1) X.A) (hab : attributeBase e fl X.env (eval e X.env) = eval e X.env) :
    PE X (.Attribute e fl pos) (tProp C sp [] (fun _ _ _ => False) ta) := by
  refine ⟨fun pins s σ H Q I h => ?_⟩
  refine attr_of hab (thn (he.run pins s σ H _ I h) fun u s1 ⟨x, H1, I1, rx, a, dx, fs, ex, ea, q⟩ => ?_)
  subst ex
  obtain rfl : u = Value.ref a := rx
  exact getprop_okR I1 ea c hp F hr q
theorem de_prop (c : Cls X.K C) (hp : PropOf X.K C fl pp g) (F : FnD X.prog X.w X.K X.mg X.base k g S) (hr : Room (k + 1) X.A) (h : DE X Z e δ M fun d M1 => ∃ ns l, IsIns M1 C ns l d ∧ S [d] M1 post (fun _ _ _ _ => False))
    (hab : attributeBase e fl X.env (eval e X.env) = eval e X.env := by rfl) : DE X Z (.Attribute e fl pos) δ M post := fun W σ H A Q q =>
  of_pe (pe_propR pe_w c hp F hr hab) (h W σ H A _ fun v d M1 W1 H1 A1 s1 r1 ⟨ns, l, hi, hS⟩ => by
    obtain ⟨a, dx, xs, ev, g1, g2, g3⟩ := isIns_at A1 r1 hi
    subst ev
    refine ⟨a, dx, _, rfl, g1, ?_⟩
    have := call_data (Wx := fun _ _ _ _ => False) (w := fun _ _ _ _ _ => False) (Q := Q) A1 s1 (.one r1) hS (fun _ _ _ _ _ _ _ _ _ _ _ z => z) q
    exact this)
/-! ### isinstance(e, C), C an own class -/
/-- what isinstance asks of an own class -/
structure ClsI (K : PySem.W.Frag) (C : Addr) : Prop where
  cl : Cls K C
  ha : PySem.W.findIn K (.ref C) "__class__" = some (some (.builtin "object.__class__"))
  hn : PySem.W.specialIn K (.builtin "object.__class__") "__get__" = some (some (.builtin "getset_descriptor.__get__"))
  htk : PySem.W.takesIn K (.builtin "object.__class__") = some true
  hm : PySem.W.mroIn K C (.type "object") = some true
theorem rc_isiC {M : Mem} {C : Addr} {d : D} {n : String} {b : Bool} {K : PySem.W.Frag} (hd : d.tyN = some n) (hk : PySem.W.kitOne K (.type n) (.ref C) = some b) : RC K M (L2.rIsi K) [d, .adr C] (.bl b) := fun W H vs Q sm _ r k => by
  cases r with
  | @cons x _ _ _ rx r =>
    cases r with
    | @cons c _ _ _ rc r =>
      cases r
      have e1 := rc.adr_inv
      subst e1
      exact ⟨x, .ref C, _, .ref C, b, rfl, .own C, ty_of sm rx hd, hk, k _ W H (Step.refl sm) (.bl b)⟩
theorem rc_isiO {M : Mem} {C C' : Addr} {ns : List Str} {l : List D} {b : Bool} {K : PySem.W.Frag} (c : ClsI K C') (hk : PySem.W.kitOne K (.ref C') (.ref C) = some b) : RC K M (L2.rIsi K) [.ins C' ns l, .adr C] (.bl b) := fun W H vs Q sm _ r k => by
  cases r with
  | @cons x _ _ _ rx r =>
    cases r with
    | @cons c0 _ _ _ rc r =>
      cases r
      have e1 := rc.adr_inv
      subst e1
      obtain ⟨a, dx, xs, e, h1, h2, h3⟩ := rx.ins_inv
      subst e
      exact ⟨_, .ref C, _, .ref C, b, rfl, .own C, .base (.ins (sm _ _ h1) c.cl c.ha c.hn c.htk c.hm), hk, k _ W H (Step.refl sm) (.bl b)⟩
def kindV (K : PySem.W.Frag) (d : D) (t : Value) : Prop := (∃ n, d.tyN = some n ∧ t = .type n) ∨ ∃ C ns l, d = .ins C ns l ∧ ClsI K C ∧ t = .ref C
theorem de_isiC {q : Pos} (hm : X.mg "isinstance" = none) (h : DA X Z [a, b] δ M fun ds M1 => ∃ d C t r, ds = [d, .adr C] ∧ kindV X.K d t ∧ PySem.W.kitOne X.K t (.ref C) = some r ∧ post (.bl r) M1) (hg : Gl X "isinstance" := by rfl) (he : starEach [a, b] X.env = (false, eval a X.env) :: starEach [b] X.env := by rfl)
    (hpl : (backTo pos (starEach [b] X.env)).any (·.1) = false := by rfl) : DE X Z (.Call (.Name "isinstance" q) [a, b] [] pos) δ M post :=
  de_callB call_isi hm (h.imp fun ds M1 ⟨d, C, t, r, ed, hd, hk, p⟩ => by
    subst ed
    rcases hd with ⟨n, h1, rfl⟩ | ⟨C', ns, l, rfl, c, rfl⟩
    · exact ⟨_, rc_isiC h1 hk, p⟩
    · exact ⟨_, rc_isiO c hk, p⟩) PyProof.Rows.boot_isinstance hg (by decide) (by decide) he hpl
/-! ### an own == -/
/-- both instances of the class at C, whose __eq__ is at g -/
structure EqC (K : PySem.W.Frag) (C g : Addr) : Prop where
  eq : PySem.W.findIn K (.ref C) "__eq__" = some (some (.ref g))
  ne : PySem.W.findIn K (.ref C) "__ne__" = some (some (.builtin "object.__ne__"))
  fn : PySem.W.isFn K (.ref g) = true
  nf : PySem.W.notFirst K C (.ref C) = true
  mr : PySem.W.mroIn K C (.type "object") = some true
def rOwnI (C : Addr) (sp : Sp) : R2 := fun x y H Q => ∃ a dx fs b dy gs, x = .ref a ∧ y = .ref b ∧ H a = some (.ins C dx fs) ∧ H b = some (.ins C dy gs) ∧ sp [x, y] H Q (fun _ _ _ => False)
def rOwnN (C : Addr) (sp : Sp) : R2 := fun x y H Q => ∃ a dx fs b dy gs, x = .ref a ∧ y = .ref b ∧ H a = some (.ins C dx fs) ∧ H b = some (.ins C dy gs) ∧ sp [x, y] H (fun v H' => ∃ r, v = .bl r ∧ Q (.bl (!r)) H') (fun _ _ _ => False)
theorem passF : Passes (L2.CX X.prog X.w) X (fun _ _ _ => False) := fun pins σ H s e s' I h => (cx_noA h).elim
theorem op_eqI {sp : Sp} (c : EqC X.K C g) (F : FnR X.prog X.w X.K X.mg X.base (L2.CX X.prog X.w) n g sp) (hr : Room n X.A) : OpR X (compareOp .Eq) (rOwnI C sp) := by
  intro pins s σ H x y v u Q I rx ry h
  obtain ⟨a, dx, fs, b, dy, gs, rfl, rfl, ha, hb, q⟩ := h
  cases (show v = Value.ref a from rx)
  cases (show u = Value.ref b from ry)
  obtain ⟨mA, J, _⟩ := ins_get I.hok ha
  obtain ⟨mB, J', _⟩ := ins_get I.hok hb
  obtain ⟨od, J, _⟩ := J.look
  obtain ⟨od', J', _⟩ := J'.look
  obtain ⟨m, hF⟩ := I.fr
  show wpAny _ _ (richCompare .Eq (.ref a) (.ref b)) _ _ _
  refine PySem.W.cmp_K (op := .Eq) (tb := .ref C) hr.units0 hF I.ok.mod.kin J J'.type c.nf c.eq c.fn ?_
  refine wpAny_mono (wpAny_call (run_fnR (us := [.ref a, .ref b]) (vs := [.ref a, .ref b]) F hr passF I (.cons rfl (.cons rfl .nil)) q)) (fun w s' z => ?_) fun _ _ x => x
  obtain ⟨z', H', I', rz, qz⟩ := z
  exact SlX.cmpback rz ⟨z', H', I', rz, qz⟩
theorem boolRel {v : Value} {r : Bool} (h : RelV (.bl r) v) : v = .bool r := h
open PySem.Spec PyProof.Rows in
theorem objNe_entryI {A : Around} {E : Value → Shared → Prop} {K : PySem.W.Frag} {prog : Program} {w : World} {ad bd C : Addr} {ox od : Obj} {s : Shared} {Q : Fin → Shared → Prop} {R : Bool → Shared → Prop} (X : K.In s.heap) (I : PySem.W.InstAt s.heap ad ox C (some od)) (hs : PySem.W.findIn K (.ref C) "__eq__" = some (some (.ref g))) (hf : PySem.W.isFn K (.ref g) = true) (hu : A.units < cLine)
    (h : wpAny (model prog w) A (call (.ref g) [.ref ad, .ref bd]) (fun v s' => ∃ r, v = .bool r ∧ R r s') E s) (hq : ∀ r s', R r s' → Q (.done (.ret (.bool (!r)))) s') : wpAny (model prog w) A (Builtin.«object.__ne__» ⟨[.ref ad, .ref bd], []⟩) Q E s := by
  have sp : ∀ Q' : Option Value → Shared → Prop, (∀ r s', R r s' → Q' (some (.bool r)) s') → wpAny (model prog w) A (callSpecialIfBound? (.ref ad) "__eq__" [.ref bd]) Q' E s := fun Q' hq' =>
    PySem.W.ifBound_K X I hs hf (wpAny_mono h (fun v s' z => by
      obtain ⟨r, rfl, q⟩ := z
      exact hq' r s' q) fun _ _ x => x)
  unfold Builtin.«object.__ne__»
  repeat (first | with_reducible refine wpAny_cRoomFor hu ?_ | with_reducible refine sp _ ?_ | wp_step)
  intro r s' q
  repeat (first | with_reducible refine wpAny_truthy_bool ?_ | wp_step)
  exact hq r s' q
open PySem.Spec PyProof.Rows PySem.SeqAt in
theorem tryNe {A : Around} {E : Value → Shared → Prop} {K : PySem.W.Frag} {prog : Program} {w : World} {ad bd C : Addr} {ox od : Obj} {s : Shared} {Q : Option Value → Shared → Prop} {R : Bool → Shared → Prop} (X : K.In s.heap) (I : PySem.W.InstAt s.heap ad ox C (some od)) (c : EqC K C g) (hu : A.in1.units < cLine)
    (h : ∀ E', (∀ r s', R r s' → True) → wpAny (model prog w) A.in1 (call (.ref g) [.ref ad, .ref bd]) (fun v s' => ∃ r, v = .bool r ∧ R r s') E' s) (hq : ∀ r s', R r s' → Q (some (.bool (!r))) s') : wpAny (model prog w) A (tryCompare (.ref ad) "__ne__" (.ref bd)) Q E s := by
  have call_ne : ∀ Q' : Value → Shared → Prop, (∀ r s', R r s' → Q' (.bool (!r)) s') → wpAny (model prog w) A (call (.builtin "object.__ne__") [.ref ad, .ref bd]) Q' E s := fun Q' hq' =>
    wpAny_call (codeAny_call_builtin F.cmp_object.ne.plain F.cmpEntry_ne (PySem.W.check_slot F.cmpKind_ne F.cmpSplit_ne (I.type.andThen (PySem.W.looks_mroIn X c.mr)) (F.cmpArgs_ne _ _) (objNe_entryI (R := R) X I c.eq c.fn hu (h _ fun _ _ _ => trivial) fun r s' q => hq' r s' q)))
  have ifB : ∀ Q' : Option Value → Shared → Prop, (∀ r s', R r s' → Q' (some (.bool (!r))) s') → wpAny (model prog w) A (callSpecialIfBound? (.ref ad) "__ne__" [.ref bd]) Q' E s := fun Q' hq' => by
    simp only [callSpecialIfBound?, bindSpecialIfBound?]
    refine wpAny_holding (wpAny_bind (wpAny_bind (wpAny_bind (I.type.here ((PySem.W.looks_findIn X c.ne).here ?_)))))
    refine wpAny_bind (wpAny_askSetting (wpAny_ite ?_))
    have fin : wpAny (model prog w) A (call (.builtin "object.__ne__") ([.ref ad] ++ [.ref bd]) >>= fun v => pure (some v)) Q' E s := wpAny_bind (call_ne _ fun r s' q => wpAny_pure (hq' r s' q))
    split
    · exact wpAny_bind (wpAny_of_eq (F.cmp_object.ne.bind _) (wpAny_pure (by exact fin)))
    · exact wpAny_tryCatch (wpAny_bind (wpAny_of_eq (F.cmp_object.ne.bind _) (wpAny_pure (by exact fin))))
  unfold tryCompare
  exact wpAny_bind (ifB _ fun r s' q => wpAny_pure (hq r s' q))
open PySem.Spec PyProof.Rows PySem.SeqAt in
theorem op_neI {sp : Sp} (c : EqC X.K C g) (F : FnR X.prog X.w X.K X.mg X.base (L2.CX X.prog X.w) n g sp) (hr : Room (n + 1) X.A) : OpR X (compareOp .NotEq) (rOwnN C sp) := by
  intro pins s σ H x y v u Q I rx ry h
  obtain ⟨a, dx, fs, b, dy, gs, rfl, rfl, ha, hb, q⟩ := h
  cases (show v = Value.ref a from rx)
  cases (show u = Value.ref b from ry)
  obtain ⟨mA, J, _⟩ := ins_get I.hok ha
  obtain ⟨mB, J', _⟩ := ins_get I.hok hb
  obtain ⟨od, J, _⟩ := J.look
  obtain ⟨od', J', _⟩ := J'.look
  have one : wpAny (model X.prog X.w) X.A (tryCompare (.ref a) (cmpInfo .NotEq).2.1 (.ref b)) (fun r s' => ∃ v, r = some v ∧ EP X pins σ Q v s') X.xe s := by
    refine tryNe (g := g) (R := fun r s' => EP X pins σ Q (.bool (!r)) s') I.kIn J c hr.in1.units0 (fun E' _ => ?_) fun r s' z => ⟨_, rfl, z⟩
    refine wpAny_call (codeAny_mono (F X.A.in1 X.stack s H [.ref a, .ref b] [.ref a, .ref b] _ (fun _ _ _ => False) hr.in1 I.env0.in1 (.cons rfl (.cons rfl .nil)) q) fun r s' hq => ?_)
    cases r with
    | error er => exact (cx_noA hq).elim
    | ok fl =>
      cases fl with
      | ret u =>
        obtain ⟨v, H', I3, rv, r, ev, q3⟩ := I.after hq
        subst ev
        exact ⟨r, rv, .bl (!r), H', I3, rfl, q3⟩
      | next => exact False.elim hq
      | brk => exact False.elim hq
      | cont => exact False.elim hq
  show wpAny _ _ (richCompare .NotEq (.ref a) (.ref b)) _ _ _
  unfold richCompare
  simp only [oneThing_ref]
  refine wpAny_holding (wpAny_bind (wpAny_cRoomFor hr.units0 ?_))
  refine wpAny_bind (J.type.here (wpAny_bind (J'.type.here ?_)))
  split
  · rename_i q
    simp at q
  · refine wpAny_bind (wpAny_pure ?_)
    simp only [Bool.false_eq_true, if_false]
    refine wpAny_bind (wpAny_mono one (fun r s' z => ?_) fun _ _ e => e)
    obtain ⟨v, rfl, hq⟩ := z
    exact wpAny_pure hq
end
end DL
namespace DL
open PySem PySem.Spec PyProof.Rows L2
open He (Dv FnW dflB kwdB dflB_ok kwdB_ok frG asD frG_in ga ma eqO ba Fa)
/-! ### the head for classes: defs found by a path of one's own, facts told as one Bool -/
/-- the getter of a property, the def of a classmethod, of a staticmethod -/
def recG (K : PySem.W.Frag) (kind : String) (C : Addr) (m : Str) : Addr := match PySem.W.recIn K (ma K C m) kind with
  | some (.ref g :: _) => g
  | _ => 0
structure DefP where
  ad : PySem.W.Frag → Addr
  name : Str
  qual : Str
  params : Arguments
  body : List Stmt
  scope : Scope
  dfl : List Dv := []
  kwd : List (Str × Dv) := []
def fnA (K : PySem.W.Frag) (a : Addr) : FnW := match K.lookup a with
  | some ⟨_, _, .func fd, _⟩ => some (fd.name, fd.qualname, fd.params, fd.body, fd.scope, fd.globals, fd.closure, fd.builtins)
  | _ => none
def DefP.val (d : DefP) : FnW := some (d.name, d.qual, d.params, .stmts d.body, d.scope, mainGlobals, [], builtinsNs)
def DefP.dvs (K : PySem.W.Frag) (d : DefP) : List V := d.dfl.map (Dv.v K)
def DefP.kws (K : PySem.W.Frag) (d : DefP) : List (Str × V) := d.kwd.map fun q => (q.1, q.2.v K)
def DefP.ok (K : PySem.W.Frag) (d : DefP) : Bool := PySem.W.keepIn K (.ref (d.ad K)) && (match K.lookup (d.ad K) with
  | some ⟨_, _, .func fd, _⟩ => PySem.W.codeIn K fd.code d.qual && (dflB K fd.defaults (d.dvs K) && kwdB K fd.kwdefaults (d.kws K))
  | _ => false)
theorem DefP.funD {K : PySem.W.Frag} {d : DefP} (e : fnA K (d.ad K) = d.val) (c : d.ok K = true) : ∃ fd, FunD K d.name d.qual d.params d.body d.scope (d.dvs K) (d.kws K) (d.ad K) fd := by
  obtain ⟨kp, c2⟩ := ba c
  unfold fnA at e
  cases q : K.lookup (d.ad K) with
  | none =>
    rw [q] at c2
    cases c2
  | some o =>
    obtain ⟨oc, od, dt, osl⟩ := o
    rw [q] at c2 e
    cases dt with
    | func fd =>
      obtain ⟨n1, n2, n3, n4, n5, n6, n7, n8, n9, n10, n11, n12, n13, n14, n15⟩ := fd
      have e2 : (some (n1, n2, n3, n4, n5, n6, n7, n15) : FnW) = some (d.name, d.qual, d.params, .stmts d.body, d.scope, mainGlobals, [], builtinsNs) := e
      simp only [Option.some.injEq, Prod.mk.injEq] at e2
      obtain ⟨h1, h2, h3, h4, h5, h6, h7, h8⟩ := e2
      subst h1 h2 h3 h4 h5 h6 h7 h8
      have c3 : (PySem.W.codeIn K n13 d.qual && (dflB K n8 (d.dvs K) && kwdB K n9 (d.kws K))) = true := c2
      obtain ⟨k1, k2⟩ := ba c3
      obtain ⟨k3, k4⟩ := ba k2
      exact ⟨_, ⟨oc, od, n8, n9, n10, n11, n12, n13, n14, osl, rfl, q, k1, dflB_ok k3, kwdB_ok k4⟩, kp⟩
    | _ => cases c2
/-- more facts of classes -/
inductive Fc where
  | fa (f : Fa)
  | prop (C f : Str)
  | cmet (C m : Str)
  | isi (C : Str)
  | eqc (C : Str)
  | con (C f : Str) (i : Int)
  | kit (n : String) (C : Str) (b : Bool)
  | kitO (C D : Str) (b : Bool)
def eqV (a b : Option (Option Value)) : Bool := eqO a b
def Fc.ok (K : PySem.W.Frag) : Fc → Bool
  | .fa f => f.ok K
  | .prop C f => eqO (PySem.W.findIn K (.ref (ga K C)) f) (some (some (.ref (ma K (ga K C) f)))) && (eqO (PySem.W.specialIn K (.ref (ma K (ga K C) f)) "__get__") (some (some (.builtin "property.__get__"))) &&
      (decide (PySem.W.takesIn K (.ref (ma K (ga K C) f)) = some true) && (match PySem.W.recIn K (ma K (ga K C) f) "property" with
        | some (.ref g :: _) => decide (g = recG K "property" (ga K C) f)
        | _ => false)))
  | .cmet C m => PySem.W.readsIn K (ga K C) (.type "type") && (eqO (PySem.W.specialIn K (.ref (ga K C)) "__getattribute__") (some (some (.builtin "type.__getattribute__"))) && (He5.wrapB K (ga K C) "classmethod" "classmethod.__get__" m && PySem.W.fnIn K (He5.wf K (ga K C) "classmethod" m)))
  | .isi C => eqO (PySem.W.findIn K (.ref (ga K C)) "__class__") (some (some (.builtin "object.__class__"))) && (eqO (PySem.W.specialIn K (.builtin "object.__class__") "__get__") (some (some (.builtin "getset_descriptor.__get__"))) &&
      (decide (PySem.W.takesIn K (.builtin "object.__class__") = some true) && decide (PySem.W.mroIn K (ga K C) (.type "object") = some true)))
  | .eqc C => eqO (PySem.W.findIn K (.ref (ga K C)) "__eq__") (some (some (.ref (ma K (ga K C) "__eq__")))) && (eqO (PySem.W.findIn K (.ref (ga K C)) "__ne__") (some (some (.builtin "object.__ne__"))) &&
      (PySem.W.isFn K (.ref (ma K (ga K C) "__eq__")) && (PySem.W.notFirst K (ga K C) (.ref (ga K C)) && decide (PySem.W.mroIn K (ga K C) (.type "object") = some true))))
  | .con C f i => PySem.W.readsIn K (ga K C) (.type "type") && (eqO (PySem.W.specialIn K (.ref (ga K C)) "__getattribute__") (some (some (.builtin "type.__getattribute__"))) && (match PySem.W.findCls K (.ref (ga K C)) (.type "type") f with
    | some (.val (.int j _)) => decide (j = i)
    | _ => false))
  | .kit n C b => decide (PySem.W.kitOne K (.type n) (.ref (ga K C)) = some b)
  | .kitO C D b => decide (PySem.W.kitOne K (.ref (ga K C)) (.ref (ga K D)) = some b)
abbrev AlP : Type := Bool × List FnW
def obsP (fc : List Fc) (fn : List DefP) (K : PySem.W.Frag) : AlP := ((fc.all fun f => f.ok K) && fn.all fun d => d.ok K, fn.map fun d => fnA K (d.ad K))
def valP (fn : List DefP) : AlP := (true, fn.map DefP.val)
def SaysP (fc : List Fc) (fn : List DefP) (K : PySem.W.Frag) : Prop := obsP fc fn K = valP fn
def obsPG (n : Nat) (fc : List Fc) (fn : List DefP) (g : Addr → Option Obj) : AlP := obsP fc fn (frG g (cStatics :: asD g n))
def hookP (n : Nat) (fc : List Fc) (fn : List DefP) : PySem.W.Hook where
  α := AlP
  obs := fun s => obsPG n fc fn s.heap.get?
  val := fun _ => valP fn
  says := fun _ h => ∃ K : PySem.W.Frag, K.In h ∧ SaysP fc fn K
  of := fun _ _ e => ⟨_, frG_in, e⟩
  keeps := fun _ _ _ ⟨K, hK, c⟩ k => ⟨K, PySem.W.Frag.In.keeps hK k, c⟩
theorem obsPG_eq {n : Nat} {fc : List Fc} {fn : List DefP} {g : Addr → Option Obj} {s : Shared} (h : ∀ a, g a = s.heap.get? a) : obsPG n fc fn g = (hookP n fc fn).obs s := by
  have e : g = s.heap.get? := funext h
  rw [e] <;> rfl
structure Ty (fc : List Fc) (fn : List DefP) (K : PySem.W.Frag) (mg : Str → Option Value) : Prop where
  h : ∃ h : Heap, K.In h ∧ h.Ns mainGlobals mg
  c : SaysP fc fn K
section
variable {fc : List Fc} {fn : List DefP} {K : PySem.W.Frag} {mg : Str → Option Value}
theorem Ty.fact (T : Ty fc fn K mg) (i : Nat) {f : Fc} (h : fc[i]? = some f) : f.ok K = true := by
  have c1 := (ba (show ((fc.all fun f => f.ok K) && fn.all fun d => d.ok K) = true from congrArg (fun z : AlP => z.1) T.c)).1
  exact List.all_eq_true.mp c1 f (List.mem_of_getElem? h)
theorem Ty.def_ (T : Ty fc fn K mg) (i : Nat) {d : DefP} (h : fn[i]? = some d := by rfl) : ∃ fd, FunD K d.name d.qual d.params d.body d.scope (d.dvs K) (d.kws K) (d.ad K) fd := by
  have c2 := (ba (show ((fc.all fun f => f.ok K) && fn.all fun d => d.ok K) = true from congrArg (fun z : AlP => z.1) T.c)).2
  have e : fn.map (fun d => fnA K (d.ad K)) = fn.map DefP.val := congrArg (fun z : AlP => z.2) T.c
  have e1 : fnA K (d.ad K) = d.val := by
    have := congrArg (fun l : List FnW => l[i]?) e
    simp only [List.getElem?_map, h, Option.map_some, Option.some.injEq] at this
    exact this
  exact d.funD e1 (List.all_eq_true.mp c2 d (List.mem_of_getElem? h))
theorem Ty.kp (T : Ty fc fn K mg) (i : Nat) {d : DefP} (h : fn[i]? = some d := by rfl) : PySem.W.keepIn K (.ref (d.ad K)) = true := let ⟨_, F⟩ := T.def_ i h; F.kp
theorem Ty.glo (T : Ty fc fn K mg) (i : Nat) {x : Str} (h : fc[i]? = some (.fa (.glo x)) := by rfl) : mg x = some (.ref (ga K x)) := let ⟨_, X, G⟩ := T.h; He.glo_ok X G (T.fact i h)
theorem Ty.free (T : Ty fc fn K mg) (i : Nat) {x : Str} (h : fc[i]? = some (.fa (.free x)) := by rfl) : mg x = none := let ⟨_, X, G⟩ := T.h; He.free_ok X G (T.fact i h)
theorem Ty.int (T : Ty fc fn K mg) (i : Nat) {x : Str} {z : Int} (h : fc[i]? = some (.fa (.int x z)) := by rfl) : ∃ t, mg x = some (.int z t) := let ⟨_, X, G⟩ := T.h; He.int_ok X G (T.fact i h)
theorem Ty.exc (T : Ty fc fn K mg) (i : Nat) {x : Str} (h : fc[i]? = some (.fa (.exc x)) := by rfl) : PySem.W.excIn K (ga K x) He.veBase "ValueError.__new__" = true ∧ PySem.W.keepIn K (.ref (ga K x)) = true ∧ PySem.W.subIn K (.ref (ga K x)) (.type "BaseException") = some true ∧ PySem.W.typeIn K (.ref (ga K x)) = some (.type "type") := He.exc_ok (T.fact i h)
theorem Ty.exm (T : Ty fc fn K mg) (i : Nat) {x y : Str} {b : Bool} (h : fc[i]? = some (.fa (.exm x y b)) := by rfl) : PySem.W.exmOne K (.ref (ga K x)) (.ref (ga K y)) = some b := He.exm_ok (T.fact i h)
theorem Ty.cls (T : Ty fc fn K mg) (i : Nat) {x : Str} (h : fc[i]? = some (.fa (.cls x)) := by rfl) : Cls K (ga K x) := He.cls_ok (T.fact i h)
theorem Ty.noat (T : Ty fc fn K mg) (i : Nat) {x f : Str} (h : fc[i]? = some (.fa (.noat x f)) := by rfl) : NoAttr K (ga K x) f := He.noat_ok (T.fact i h)
theorem Ty.meth (T : Ty fc fn K mg) (i : Nat) {x m : Str} (h : fc[i]? = some (.fa (.meth x m)) := by rfl) : Meth K (ga K x) m (ma K (ga K x) m) := He.meth_ok (T.fact i h)
theorem Ty.mkr (T : Ty fc fn K mg) (i : Nat) {x : Str} (h : fc[i]? = some (.fa (.mkr x)) := by rfl) : Mk K (ga K x) (ma K (ga K x) "__init__") := He.mkr_ok (T.fact i h)
theorem Ty.keep (T : Ty fc fn K mg) (i : Nat) {x : Str} (h : fc[i]? = some (.fa (.keep x)) := by rfl) : PySem.W.keepIn K (.ref (ga K x)) = true := He.keep_ok (T.fact i h)
theorem Ty.prop (T : Ty fc fn K mg) (i : Nat) {C f : Str} (h : fc[i]? = some (.prop C f) := by rfl) : PropOf K (ga K C) f (ma K (ga K C) f) (recG K "property" (ga K C) f) := by
  obtain ⟨h1, h2⟩ := ba (T.fact i h)
  obtain ⟨h2, h3⟩ := ba h2
  obtain ⟨h3, h4⟩ := ba h3
  refine ⟨He.eqO_ok h1, He.eqO_ok h2, of_decide_eq_true h3, ?_⟩
  split at h4
  · rename_i g r e
    rw [of_decide_eq_true h4] at e
    exact ⟨_, e⟩
  · cases h4
theorem Ty.isi (T : Ty fc fn K mg) (i j : Nat) {C : Str} (h : fc[i]? = some (.isi C) := by rfl) (h' : fc[j]? = some (.fa (.cls C)) := by rfl) : ClsI K (ga K C) := by
  obtain ⟨h1, h2⟩ := ba (T.fact i h)
  obtain ⟨h2, h3⟩ := ba h2
  obtain ⟨h3, h4⟩ := ba h3
  exact ⟨T.cls j h', He.eqO_ok h1, He.eqO_ok h2, of_decide_eq_true h3, of_decide_eq_true h4⟩
theorem Ty.eqc (T : Ty fc fn K mg) (i : Nat) {C : Str} (h : fc[i]? = some (.eqc C) := by rfl) : EqC K (ga K C) (ma K (ga K C) "__eq__") := by
  obtain ⟨h1, h2⟩ := ba (T.fact i h)
  obtain ⟨h2, h3⟩ := ba h2
  obtain ⟨h3, h4⟩ := ba h3
  obtain ⟨h4, h5⟩ := ba h4
  exact ⟨He.eqO_ok h1, He.eqO_ok h2, h3, h4, of_decide_eq_true h5⟩
theorem Ty.kit (T : Ty fc fn K mg) (i : Nat) {n : String} {C : Str} {b : Bool} (h : fc[i]? = some (.kit n C b) := by rfl) : PySem.W.kitOne K (.type n) (.ref (ga K C)) = some b := of_decide_eq_true (T.fact i h)
theorem Ty.kitO (T : Ty fc fn K mg) (i : Nat) {C D : Str} {b : Bool} (h : fc[i]? = some (.kitO C D b) := by rfl) : PySem.W.kitOne K (.ref (ga K C)) (.ref (ga K D)) = some b := of_decide_eq_true (T.fact i h)
theorem Ty.cmet (T : Ty fc fn K mg) (i : Nat) {C m : Str} (h : fc[i]? = some (.cmet C m) := by rfl) : ClX.CRead K (ga K C) (.type "type") ∧ ClX.CMet K (ga K C) (.type "type") m (ma K (ga K C) m) (He5.wf K (ga K C) "classmethod" m) := by
  obtain ⟨h1, h2⟩ := ba (T.fact i h)
  obtain ⟨h2, h3⟩ := ba h2
  obtain ⟨h3, h4⟩ := ba h3
  obtain ⟨w1, w2⟩ := He5.wrapB_ok h3
  exact ⟨⟨h1, He.eqO_ok h2⟩, w1, w2, h4⟩
theorem Ty.con (T : Ty fc fn K mg) (i : Nat) {C f : Str} {z : Int} (h : fc[i]? = some (.con C f z) := by rfl) : ClX.CRead K (ga K C) (.type "type") ∧ ∃ u, ClX.CVal K (ga K C) (.type "type") f (.int z) u := by
  obtain ⟨h1, h2⟩ := ba (T.fact i h)
  obtain ⟨h2, h3⟩ := ba h2
  refine ⟨⟨h1, He.eqO_ok h2⟩, ?_⟩
  split at h3
  · rename_i j t e
    have e2 := of_decide_eq_true h3
    subst e2
    exact ⟨_, e, _, rfl⟩
  · cases h3
end
end DL
namespace DL
open PySem L2
section
variable {X : Cx} {Z : Ent} {e o a b : Expr} {es : List Expr} {δ : Dl} {M : Mem} {post : DK} {pos p apos pos' : Pos} {k n : Nat} {f g pp C : Addr} {S : DSp} {x m fl : Str} {w : DXW} {P : DEnds} {tst : Bool → Mem → Prop}
/-! ### == and != of own objects, as tests and as values -/
def EqArg (X : Cx) (S : DSp) (C : Addr) (tst : Bool → Mem → Prop) (x y : D) (M2 : Mem) : Prop := (∃ ns l, IsIns M2 C ns l x) ∧ (∃ ns l, IsIns M2 C ns l y) ∧ S [x, y] M2 (fun d M3 => ∃ r, d = .bl r ∧ tst r M3) (fun _ _ _ _ => False)
theorem eq_data {σ : St} {W : Hp} {A : Addr} {W1 H1 : Hp} {M1 : Mem} {v u : V} {dx dy : D} {Q : VK} (A1 : At X.K Z δ M1 W1 σ H1) (s1 : Same W W1) (r1 : Rep X.K W1 v dx) (r2 : Rep X.K W1 u dy) (hS : S [dx, dy] M1 post (fun _ _ _ _ => False))
    (q : ∀ v d M' W' H', At X.K Z δ M' W' σ H' → Same W W' → Rep X.K W' v d → post d M' → Q v H') : spOf X.K S [v, u] H1 Q (fun _ _ _ => False) :=
  call_data (Wx := fun _ _ _ _ => False) (w := fun _ _ _ _ _ => False) A1 s1 (.cons r1 (.one r2)) hS (fun _ _ _ _ _ _ _ _ _ _ _ z => z) q
theorem dt_eqO (c : EqC X.K C g) (F : FnD X.prog X.w X.K X.mg X.base n g S) (hr : Room n X.A) (h : DE X Z a δ M fun x M1 => DE X Z b δ M1 fun y M2 => EqArg X S C tst x y M2) (hm : behindInMarks .Eq b = false := by rfl) : DT X Z (.Compare a [.Eq] [b] pos) δ M tst := fun W σ H A Q k =>
  of_pt (pt_cmpR (op_eqI c F hr) pe_w pe_w hm) (h W σ H A _ fun v x M1 W1 H1 A1 s1 r1 h1 => h1 W1 σ H1 A1 _ fun u y M2 W2 H2 A2 s2 r2 ⟨⟨ns, l, i1⟩, ⟨ns', l', i2⟩, hS⟩ => by
    obtain ⟨a1, dx, xs, e1, g1, _⟩ := isIns_at A2 (r1.mono s2) i1
    obtain ⟨a2, dy, ys, e2, g2, _⟩ := isIns_at A2 r2 i2
    refine ⟨a1, dx, _, a2, dy, _, e1, e2, g1, g2, ?_⟩
    exact eq_data (A := C) A2 (s1.trans s2) (r1.mono s2) r2 hS fun v d M' W' H' A' s' r' ⟨r, ed, hp⟩ => by
      subst ed
      exact ⟨r, r'.bl_inv, k r M' W' H' A' s' hp⟩)
theorem dt_neO (c : EqC X.K C g) (F : FnD X.prog X.w X.K X.mg X.base n g S) (hr : Room (n + 1) X.A) (h : DE X Z a δ M fun x M1 => DE X Z b δ M1 fun y M2 => EqArg X S C (fun r M3 => tst (!r) M3) x y M2) (hm : behindInMarks .NotEq b = false := by rfl) : DT X Z (.Compare a [.NotEq] [b] pos) δ M tst := fun W σ H A Q k =>
  of_pt (pt_cmpR (op_neI c F hr) pe_w pe_w hm) (h W σ H A _ fun v x M1 W1 H1 A1 s1 r1 h1 => h1 W1 σ H1 A1 _ fun u y M2 W2 H2 A2 s2 r2 ⟨⟨ns, l, i1⟩, ⟨ns', l', i2⟩, hS⟩ => by
    obtain ⟨a1, dx, xs, e1, g1, _⟩ := isIns_at A2 (r1.mono s2) i1
    obtain ⟨a2, dy, ys, e2, g2, _⟩ := isIns_at A2 r2 i2
    refine ⟨a1, dx, _, a2, dy, _, e1, e2, g1, g2, ?_⟩
    exact eq_data (A := C) A2 (s1.trans s2) (r1.mono s2) r2 hS fun v d M' W' H' A' s' r' ⟨r, ed, hp⟩ => by
      subst ed
      exact ⟨r, r'.bl_inv, !r, rfl, k (!r) M' W' H' A' s' hp⟩)
theorem de_eqO (c : EqC X.K C g) (F : FnD X.prog X.w X.K X.mg X.base n g S) (hr : Room n X.A) (h : DE X Z a δ M fun x M1 => DE X Z b δ M1 fun y M2 => EqArg X S C (fun r M3 => post (.bl r) M3) x y M2) (hm : behindInMarks .Eq b = false := by rfl) : DE X Z (.Compare a [.Eq] [b] pos) δ M post := fun W σ H A Q k =>
  of_pe (pe_cmpR (op_eqI c F hr) pe_w pe_w hm) (h W σ H A _ fun v x M1 W1 H1 A1 s1 r1 h1 => h1 W1 σ H1 A1 _ fun u y M2 W2 H2 A2 s2 r2 ⟨⟨ns, l, i1⟩, ⟨ns', l', i2⟩, hS⟩ => by
    obtain ⟨a1, dx, xs, e1, g1, _⟩ := isIns_at A2 (r1.mono s2) i1
    obtain ⟨a2, dy, ys, e2, g2, _⟩ := isIns_at A2 r2 i2
    refine ⟨a1, dx, _, a2, dy, _, e1, e2, g1, g2, ?_⟩
    exact eq_data (A := C) A2 (s1.trans s2) (r1.mono s2) r2 hS fun v d M' W' H' A' s' r' ⟨r, ed, hp⟩ => by
      subst ed
      have := r'.bl_inv
      subst this
      exact k _ _ M' W' H' A' s' r' hp)
/-! ### a class held by a local name is called; a classmethod without arguments -/
def tMakeL (i : Nat) (C : Addr) (sp : Sp) (t : TA) : TE := fun σ H Q => σ[i]? = some (some (.ref C)) ∧ tMakeRS C sp (fun _ _ _ _ => False) t σ H Q
theorem pe_makeL {sp : Sp} {t : TA} {i : Nat} (Mk_ : Mk X.K C f) (F : FnR X.prog X.w X.K X.mg X.base (L2.CX X.prog X.w) k f sp) (hr : Room (k + 1) X.A) (hN : X.N[i]? = some x) (hv : Vis X.env.scope x) (ha : PA X (e :: es) t)
    (hdb : (x == ("__debug__" : Str)) = false) (hcd : (x == ("__classdict__" : Str)) = false) (he : starEach (e :: es) X.env = (false, eval e X.env) :: starEach es X.env) (hpl : (backTo pos (starEach es X.env)).any (·.1) = false) : PE X (.Call (.Name x p) (e :: es) [] pos) (tMakeL i C sp t) := by
  refine ⟨fun pins s σ H Q I h => ?_⟩
  obtain ⟨hs, ht⟩ := h
  refine wpAny_Call_Name_kw (thn ((pe_var (pos := p) hN hv hdb hcd).run pins s σ H (fun v H1 => v = .ref C ∧ H1 = H) I ⟨.ref C, hs, rfl, rfl⟩) fun u s1 ⟨v, H1, I1, r1, q1⟩ => ?_)
  obtain ⟨rfl, rfl⟩ := q1
  cases r1
  refine PySem.W.callWith_K (h₀ := X.base) I.ok.mod.kin Mk_.kp (thn (ha.run pos pins s1 σ _ _ I1 ht) fun us s2 ⟨vs, H2, I2, r, q⟩ => ⟨I2.kIn, ?_⟩) he hpl
  exact run_makeRS Mk_ F hr (fun pins H s e s' I h => (cx_noA h).elim) I2 r q
theorem de_makeL (i : Nat) (Mk_ : Mk X.K C f) (F : FnD X.prog X.w X.K X.mg X.base k f S) (hr : Room (k + 1) X.A) (hi : δ[i]? = some (some (.adr C)))
    (h : DA X Z (e :: es) δ M fun ds M1 => ∀ x, M1 x = none → S (.adr x :: ds) (M1.set x (.ins C [] [])) (fun d M2 => d = .non ∧ ∃ ns l, M2 x = some (.ins C ns l) ∧ post (.ins C ns l) (M2.del x)) (fun _ _ _ _ => False)) (hN : X.N[i]? = some x := by rfl)
    (hv : Vis X.env.scope x := by first | exact Or.inl rfl | exact Or.inr (Or.inl rfl) | exact Or.inr (Or.inr rfl)) (hdb : (x == ("__debug__" : Str)) = false := by decide) (hcd : (x == ("__classdict__" : Str)) = false := by decide) (he : starEach (e :: es) X.env = (false, eval e X.env) :: starEach es X.env := by rfl)
    (hpl : (backTo pos (starEach es X.env)).any (·.1) = false := by rfl) : DE X Z (.Call (.Name x p) (e :: es) [] pos) δ M post := fun W σ H A Q q => by
  refine of_pe (pe_makeL Mk_ F hr hN hv pa_w hdb hcd he hpl) ⟨?_, h W σ H A _ fun vs ds M1 W1 H1 A1 s1 r1 hS => fun x dx hx hdx hne => make_data (Wx := fun _ _ _ _ => False) (w := fun _ _ _ _ _ => False) A1 s1 r1 hS (fun _ _ _ _ _ _ _ _ _ _ _ z => z) q x dx hx hdx hne⟩
  obtain ⟨v, h1, h2⟩ := A.env i _ hi
  rw [h1, h2.adr_inv]
theorem pe_cmethR0 {sp : Sp} {mc : Value} {ta : TE} {pl : Sem Bool} (he : PE X o ta) (r : ClX.CRead X.K C mc) (c : ClX.CMet X.K C mc m pp g) (F : FnR X.prog X.w X.K X.mg X.base (L2.CX X.prog X.w) k g sp) (hr : Room k X.A)
    (ht : eval (.Call (.Attribute o m apos) [] [] pos) X.env = (do
      let ov ← eval o X.env
      standAt apos.atName
      let (f, first) ← holding [ov] (getMethod ov m pl)
      callWith pos f first (backTo pos (starEach [] X.env)) (backToKw pos (keywordEach [] X.env)))) : PE X (.Call (.Attribute o m apos) [] [] pos) (ClX.tCMeth C sp (fun _ _ _ => False) ta tNil) := by
  refine ⟨fun pins s σ H Q I h => ?_⟩
  refine PySem.W.methodCall_KW (pl := pl) (thn (he.run pins s σ H _ I h) fun u s1 ⟨x, H1, I1, rx, ex, q⟩ => ?_) ht
  subst ex
  obtain rfl : u = Value.ref C := rx
  refine ClX.getmethcm_ok I1 r c fun s2 I2 => ?_
  exact PySem.W.callWith_M0 (first := []) ⟨ClX.pin_at I2, I2.kIn⟩ c.fi (ClX.run_cm F hr passF I2 .nil q)
/-- C.m(), C the class at hand -/
theorem de_cmeth0 {mc : Value} {pl : Sem Bool} (r : ClX.CRead X.K C mc) (c : ClX.CMet X.K C mc m pp g) (F : FnD X.prog X.w X.K X.mg X.base k g S) (hr : Room k X.A) (h : DE X Z o δ M fun d M1 => d = .adr C ∧ S [.adr C] M1 post (fun _ _ _ _ => False))
    (ht : eval (.Call (.Attribute o m apos) [] [] pos) X.env = (do
      let ov ← eval o X.env
      standAt apos.atName
      let (f, first) ← holding [ov] (getMethod ov m pl)
      callWith pos f first (backTo pos (starEach [] X.env)) (backToKw pos (keywordEach [] X.env))) := by rfl) : DE X Z (.Call (.Attribute o m apos) [] [] pos) δ M post := fun W σ H A Q q =>
  of_pe (pe_cmethR0 pe_w r c F hr ht) (h W σ H A _ fun v d M1 W1 H1 A1 s1 r1 ⟨ed, hS⟩ => by
    subst ed
    have e := r1.adr_inv
    subst e
    exact ⟨rfl, call_data (Wx := fun _ _ _ _ => False) (w := fun _ _ _ _ _ => False) A1 s1 (.one r1) hS (fun _ _ _ _ _ _ _ _ _ _ _ z => z) q⟩)
/-- C.f, a constant of the class -/
theorem de_cval {mc u : Value} {i : Int} (r : ClX.CRead X.K C mc) (c : ClX.CVal X.K C mc fl (.int i) u) (h : DE X Z e δ M fun d M1 => d = .adr C ∧ post (.int i) M1) (hb : attributeBase e fl X.env (eval e X.env) = eval e X.env := by rfl) : DE X Z (.Attribute e fl pos) δ M post := fun W σ H A Q q =>
  of_pe (ClX.pe_cval pe_w hb) (h W σ H A _ fun v d M1 W1 H1 A1 s1 r1 ⟨ed, hp⟩ => by
    subst ed
    exact ⟨C, mc, .int i, u, r1.adr_inv, r, c, q _ _ M1 W1 H1 A1 s1 (.int i) hp⟩)
end
/-! ### def m(self, *v) -/
section
variable {P : Program} {w : World} {K : PySem.W.Frag} {mg : Str → Option Value} {base : Heap} {j k : Nat} {f : Addr} {S S' : DSp}
theorem fnD_star1 {x qual pa pv : Str} {st : Stmt} {fd : FuncData} {N : List Str} {k : Nat} (F : FunD K x qual (defArgs st) (defBody st) (defScope st) [] [] f fd) (Sc : FnScope N [pa, pv] (defScope st))
    (hb0 : ∀ (kV doc pm : Value) (an : Option Addr) (cdv ct : Value) (a : Value), bindArgs (PySem.W.fnOf x qual (defArgs st) (defBody st) (defScope st) .none kV doc pm an cdv ct) ⟨[a], []⟩ = (newTuple [] >>= fun t => pure [(pa, a), (pv, t)]))
    (hb1 : ∀ (kV doc pm : Value) (an : Option Addr) (cdv ct : Value) (a r : Value) (rs : List Value), bindArgs (PySem.W.fnOf x qual (defArgs st) (defBody st) (defScope st) .none kV doc pm an cdv ct) ⟨a :: r :: rs, []⟩ = (newTuple (r :: rs) >>= fun t => pure [(pa, a), (pv, t)]))
    (body : ∀ (cdv : Value) (A : Around) (outer : List Env) (s : Shared) (H : Hp) (E : XK) (Z : Ent) (d : D) (ds : List D) (M : Mem) (post : DK) (xp : DXK), Room k (A.deeper (PyProof.Rows.envOfC qual (defScope st) s.heap.objs.size f cdv)) → S (d :: ds) M post xp → Z.M = M →
      XT (bodyX P w K mg base N qual (defScope st) f cdv A outer s H E) Z (fun C ns es _ M => xp C ns es M) →
      PassesOwn (model P w) (bodyX P w K mg base N qual (defScope st) f cdv A outer s H E).A (bodyX P w K mg base N qual (defScope st) f cdv A outer s H E).env (bodyX P w K mg base N qual (defScope st) f cdv A outer s H E).xe →
      DS (bodyX P w K mg base N qual (defScope st) f cdv A outer s H E) Z (defBody st) ([d, .tup ds].map some ++ List.replicate (N.length - 2) none) M { nx := fun _ M' => post .non M', rt := post }) :
    FnD P w K mg base (k + 1) f (fun ds M post xp => (∃ d ds', ds = d :: ds' ∧ ds'.length ≤ sizeLine) ∧ S ds M post xp) := by
  have hpl : 2 ≤ N.length := by have := congrArg List.length Sc.pre; rw [List.length_take] at this; simp at this; omega
  obtain ⟨oc, od, dV, kV, doc, pm, an, cdv, ct, osl, rfl, lk, hcd, hD, hK⟩ := F.ex
  have eD : dV = .none := by
    rcases hD with ⟨_, e⟩ | ⟨e, _⟩
    · exact e
    · exact absurd rfl e
  subst eD
  have R := StX.fn_star (CX := L2.CX P w) (P := P) (w := w) (mg := mg) (base := base) (k := k) (ps := [pa]) (pv := pv) (sp := fun vs H Q E => ∃ (y : V) (xs : List V) (p : Addr) (H0 : Hp), vs = [y, V.ref p] ∧ H0 p = none ∧ H = upd H0 p (.tup xs) ∧ spOf K S (y :: xs) H0 Q E) lk hcd Sc StX.cxUp
    (StX.bind_star1 (B := fun l => bindArgs _ ⟨l, []⟩) (hb0 _ _ _ _ _ _) (hb1 _ _ _ _ _ _)) (fun A outer s H vs Q E hr h => by
    obtain ⟨y, xs, p, H0, rfl, hp, rfl, ds, W, M, post, xp, h1, h2, r, hs, hq, hx⟩ := h
    cases r with
    | @cons _ d _ ds ry r =>
    refine ⟨wSs _ _, pss_w, ?_⟩
    have st : Step W H0 (upd W p (.tup xs)) (upd H0 p (.tup xs)) := Step.new h1 hp
    have a0 : At K ⟨W, M, H0⟩ [] M W [] H0 := ⟨Fr.refl, h1, fun i d e => (by cases e), rfl, h2⟩
    have a1 := a0.step st
    have rr : Reps K (upd W p (.tup xs)) [y, V.ref p] [d, D.tup ds] := .cons (ry.mono st.w) (.one (.tup (SqT.of upd_same) (r.mono st.w)))
    have back : ∀ {W' : Hp} {M' : Mem} {H' : Hp}, Fr (upd W p (.tup xs)) M (upd H0 p (.tup xs)) W' M' H' → Fr W M H0 W' M' H' := fun f => a1.fr.trans f
    refine body cdv A outer s _ E ⟨upd W p (.tup xs), M, upd H0 p (.tup xs)⟩ d ds M post xp hr hs rfl ⟨fun cls d _ H => E cls d H, takes_of rfl rfl rfl rfl, fun C od ns es δ M' W' σ H' a r q => hx C od ns es W' M' H' (back a.fr) a.same a.cel r q⟩ (passes_of rfl) _ (L2.start N [y, V.ref p]) _ (start_at a1.same a1.cel rr hpl) _
      ⟨fun δ M' W' σ H' a _ q => hq .non .non W' M' H' (back a.fr) a.same a.cel .non q, fun v d δ M' W' σ H' a _ r q => hq v d W' M' H' (back a.fr) a.same a.cel r q, fun _ _ _ _ _ _ _ z => z, fun _ _ _ _ _ _ _ z => z⟩)
  refine FnR.imp R fun vs H Q E h => ?_
  obtain ⟨ds, W, M, post, xp, h1, h2, r, ⟨⟨d, ds', e, hz⟩, hs⟩, hq, hx⟩ := h
  subst e
  cases r with
  | @cons y _ ys _ ry r => exact ⟨[y], ys, rfl, rfl, by rw [r.length]; exact hz, fun p hp => ⟨y, ys, p, H, rfl, hp, rfl, d :: ds', W, M, post, xp, h1, h2, .cons ry r, hs, hq, hx⟩⟩
end
theorem ds_raiseY {fc : List Fc} {fn : List DefP} {X : Cx} {Z : Ent} (T : Ty fc fn X.K X.mg) (i j : Nat) {x : Str} {δ : Dl} {M : Mem} {P : DEnds} {pos p p2 cpos : Pos} {m : Str} {k : Nat} {w : DXW} (xt : XT X Z w) (h : w (He.ga X.K x) [] [] δ M) (h1 : fc[i]? = some (.fa (.exc x)) := by rfl) (h2 : fc[j]? = some (.fa (.glo x)) := by rfl)
    (hc : X.calm = true := by rfl) (hg : Gl X x := by rfl) (hdb : (x == ("__debug__" : Str)) = false := by decide) : DS1 X Z (.Raise (some (.Call (.Name x p) [.Constant (.str m) k p2] [] cpos)) none pos) δ M P :=
  let ⟨q, kC, b, t⟩ := T.exc i h1
  ds_raise xt PySem.F.excBase_ValueError q (T.glo j h2) kC b t h hc hg hdb
end DL
namespace DL
open PySem L2
/-! ### grid maps: x, y -> a x + b y + e, c x + d y + f -/
structure Six where
  a : Int
  b : Int
  c : Int
  d : Int
  e : Int
  f : Int
abbrev Six.tup (m : Six) : D := .tup [.int m.a, .int m.b, .int m.c, .int m.d, .int m.e, .int m.f]
abbrev gmD (C : Addr) (m : Six) : D := .ins C ["six"] [m.tup]
def Six.det (m : Six) : Int := m.a * m.d - m.b * m.c
def Six.Ok (m : Six) : Prop := m.det = 1 ∨ m.det = -1
def Six.Bt (k : Nat) (m : Six) : Prop := FS.Bt k m.a ∧ FS.Bt k m.b ∧ FS.Bt k m.c ∧ FS.Bt k m.d ∧ FS.Bt k m.e ∧ FS.Bt k m.f
theorem Six.Bt.mono {j k : Nat} {m : Six} (h : m.Bt j) (e : j ≤ k) : m.Bt k := let ⟨h1, h2, h3, h4, h5, h6⟩ := h; ⟨h1.mono e, h2.mono e, h3.mono e, h4.mono e, h5.mono e, h6.mono e⟩
/-- first g, then h -/
def Six.then (g h : Six) : Six := ⟨h.a * g.a + h.b * g.c, h.a * g.b + h.b * g.d, h.c * g.a + h.d * g.c, h.c * g.b + h.d * g.d, h.a * g.e + h.b * g.f + h.e, h.c * g.e + h.d * g.f + h.f⟩
def Six.one : Six := ⟨1, 0, 0, 1, 0, 0⟩
def Six.inv (m : Six) : Six := ⟨m.det * m.d, -m.det * m.b, -m.det * m.c, m.det * m.a, -(m.det * m.d * m.e + -m.det * m.b * m.f), -(-m.det * m.c * m.e + m.det * m.a * m.f)⟩
/-- sizes that all products of two stay far below -/
def kB : Nat := 100000
theorem kB2 : kB + kB ≤ 900000 := by decide
theorem kBof {k : Nat} (h : k ≤ 100000 := by decide) : k ≤ kB := h
theorem six_lay (m : Six) : Pd 1 m.tup := pd_tup fun d h => by
  simp only [List.mem_cons, List.not_mem_nil, or_false] at h
  rcases h with rfl | rfl | rfl | rfl | rfl | rfl <;> exact pd_int
theorem six_eqv (g h : Six) : PyData.eqv g.tup.py h.tup.py = true ↔ g = h := by
  have e : PyData.eqv g.tup.py h.tup.py = ((g.a == h.a) && ((g.b == h.b) && ((g.c == h.c) && ((g.d == h.d) && ((g.e == h.e) && ((g.f == h.f) && true)))))) := by simp only [Six.tup, D.py, D.pys, PyData.eqv, PyData.eqvAll]
  rw [e]
  cases g; cases h
  simp
theorem eqSix {g h : Six} {r : Bool} {M : Mem} {post : DK} (hi : r = true ↔ g = h) (q : post (.bl r) M) : PlainD g.tup ∧ PlainD h.tup ∧ post (.bl (PyData.eqv g.tup.py h.tup.py)) M := by
  refine ⟨(six_lay g).ok, (six_lay h).ok, ?_⟩
  have e : PyData.eqv g.tup.py h.tup.py = r := by
    rw [Bool.eq_iff_iff, six_eqv, hi]
  rw [e]
  exact q
def spGInit (C : Addr) : DSp := fun ds M post xp => ∃ (p : Addr) (m : Six), (ds = [.adr p, .int m.a, .int m.b, .int m.c, .int m.d, .int m.e, .int m.f]) ∧ M p = some (.ins C [] []) ∧ m.Ok ∧ m.Bt kB ∧ post .non (M.set p (.ins C ["six"] [m.tup]))
def spGInits (C : Addr) : DSp := fun ds M post xp => spGInit C ds M post xp ∨ spGInit C (ds ++ [.int 0, .int 0]) M post xp
theorem mk6' {C : Addr} {M : Mem} {post : DK} {xp : DXK} {m : Six} (h : m.Ok) (b : m.Bt kB) (q : post (gmD C m) M) : ∀ p, M p = none → spGInits C [.adr p, .int m.a, .int m.b, .int m.c, .int m.d, .int m.e, .int m.f] (M.set p (.ins C [] [])) (fun d M2 => d = .non ∧ ∃ ns l, M2 p = some (.ins C ns l) ∧ post (.ins C ns l) (M2.del p)) xp := fun p hp =>
  .inl ⟨p, m, rfl, Mem.set_same, h, b, rfl, _, _, Mem.set_same, by rw [Mem.set_set, Mem.del_set hp]; exact q⟩
theorem mk6 {C : Addr} {M : Mem} {post : DK} {xp : DXK} {a b c d e f : Int} (h : (⟨a, b, c, d, e, f⟩ : Six).Ok) (hb : (⟨a, b, c, d, e, f⟩ : Six).Bt kB) (q : post (gmD C ⟨a, b, c, d, e, f⟩) M) : ∀ p, M p = none → spGInits C [.adr p, .int a, .int b, .int c, .int d, .int e, .int f] (M.set p (.ins C [] [])) (fun d M2 => d = .non ∧ ∃ ns l, M2 p = some (.ins C ns l) ∧ post (.ins C ns l) (M2.del p)) xp :=
  mk6' (m := ⟨a, b, c, d, e, f⟩) h hb q
theorem mk4 {C : Addr} {M : Mem} {post : DK} {xp : DXK} {a b c d : Int} (h : (⟨a, b, c, d, 0, 0⟩ : Six).Ok) (hb : (⟨a, b, c, d, 0, 0⟩ : Six).Bt kB) (q : post (gmD C ⟨a, b, c, d, 0, 0⟩) M) : ∀ p, M p = none → spGInits C [.adr p, .int a, .int b, .int c, .int d] (M.set p (.ins C [] [])) (fun d M2 => d = .non ∧ ∃ ns l, M2 p = some (.ins C ns l) ∧ post (.ins C ns l) (M2.del p)) xp := fun p hp =>
  .inr ⟨p, ⟨a, b, c, d, 0, 0⟩, rfl, Mem.set_same, h, hb, rfl, _, _, Mem.set_same, by rw [Mem.set_set, Mem.del_set hp]; exact q⟩
def spGNum (C : Addr) : DSp := fun ds M post _ => ∃ m : Six, ds = [gmD C m] ∧ post m.tup M
def spGDet (C : Addr) : DSp := fun ds M post _ => ∃ m : Six, ds = [gmD C m] ∧ m.Bt kB ∧ post (.int m.det) M
def spGImg (C : Addr) : DSp := fun ds M post _ => ∃ (m : Six) (x y : Int), ds = [gmD C m, pt x y] ∧ (m.Bt kB ∧ FS.Bt kB x ∧ FS.Bt kB y) ∧ post (pt (m.a * x + m.b * y + m.e) (m.c * x + m.d * y + m.f)) M
def spGFol (C : Addr) : DSp := fun ds M post _ => ∃ g h : Six, ds = [gmD C g, gmD C h] ∧ (g.Ok ∧ h.Ok ∧ g.Bt kB ∧ h.Bt kB ∧ (g.then h).Bt kB) ∧ post (gmD C (g.then h)) M
def spGInv (C : Addr) : DSp := fun ds M post _ => ∃ m : Six, ds = [gmD C m] ∧ (m.Ok ∧ m.Bt kB ∧ m.inv.Bt kB) ∧ post (gmD C m.inv) M
def spGIdn (C : Addr) : DSp := fun ds M post _ => ds = [.adr C] ∧ post (gmD C Six.one) M
def spGEq (C : Addr) : DSp := fun ds M post _ => ∃ g h : Six, ds = [gmD C g, gmD C h] ∧ ∃ r, (r = true ↔ g = h) ∧ post (.bl r) M
def spGChk (C : Addr) (E : Addr) : DSp := fun ds M post xp => (∃ m : Six, ds = [gmD C m] ∧ post .non M) ∨ ∃ d n, ds = [d] ∧ d.tyN = some n ∧ (n = "NoneType" ∨ n = "bool" ∨ n = "int" ∨ n = "str" ∨ n = "tuple" ∨ n = "list" ∨ n = "dict") ∧ xp E [] [] M
theorem Six.det_then (g h : Six) : (g.then h).det = g.det * h.det := by
  show (h.a * g.a + h.b * g.c) * (h.c * g.b + h.d * g.d) - (h.a * g.b + h.b * g.d) * (h.c * g.a + h.d * g.c) = (g.a * g.d - g.b * g.c) * (h.a * h.d - h.b * h.c)
  grind
theorem Six.Ok.then {g h : Six} (x : g.Ok) (y : h.Ok) : (g.then h).Ok := by
  unfold Six.Ok at *
  rw [Six.det_then]
  rcases x with x | x <;> rcases y with y | y <;> rw [x, y] <;> decide
theorem Six.Ok.inv {g : Six} (x : g.Ok) : g.inv.Ok := by
  have e : g.inv.det = g.det * g.det * g.det := by
    show g.det * g.d * (g.det * g.a) - (-g.det * g.b) * (-g.det * g.c) = _
    have : g.det = g.a * g.d - g.b * g.c := rfl
    generalize g.det = t at *
    subst this
    grind
  unfold Six.Ok at *
  rw [e]
  rcases x with x | x <;> rw [x] <;> decide
/-- one after another -/
def Six.fold (g : Six) (hs : List Six) : Six := hs.foldl Six.then g
def spGThen (C : Addr) (E : Addr) : DSp := fun ds M post xp => ∃ (g : Six) (hs : List Six), ds = gmD C g :: hs.map (gmD C) ∧ (g.Ok ∧ (∀ h ∈ hs, h.Ok ∧ h.Bt kB) ∧ ∀ i, (g.fold (hs.take i)).Bt kB) ∧ post (gmD C (g.fold hs)) M
theorem Six.fold_take {g : Six} {hs : List Six} {i : Nat} {h : Six} (e : hs[i]? = some h) : g.fold (hs.take (i + 1)) = (g.fold (hs.take i)).then h := foldl_take Six.then g hs e
theorem Six.fold_ok {g : Six} (hg : g.Ok) : ∀ {hs : List Six}, (∀ h ∈ hs, h.Ok) → (g.fold hs).Ok
  | [], _ => hg
  | h :: hs, q => Six.fold_ok (g := g.then h) (hg.then (q h (List.mem_cons_self ..))) fun x hx => q x (List.mem_cons_of_mem _ hx)
/-- m, m after m, .. -/
def Six.pw (m : Six) : Nat → Six
  | 0 => m
  | n + 1 => (m.pw n).then m
theorem Six.pw_ok {m : Six} (h : m.Ok) : ∀ n, (m.pw n).Ok
  | 0 => h
  | n + 1 => (Six.pw_ok h n).then h
/-- what order() answers: n + 1, if the map done n + 1 times is the identity and no fewer times; None -/
def IsOrd (m : Six) (r : D) : Prop := (∃ n : Nat, n < 6 ∧ r = .int ((n : Int) + 1) ∧ m.pw n = Six.one ∧ ∀ k, k < n → m.pw k ≠ Six.one) ∨ (r = .non ∧ ∀ k, k < 6 → m.pw k ≠ Six.one)
def spGOrd (C : Addr) : DSp := fun ds M post _ => ∃ m : Six, ds = [gmD C m] ∧ (m.Ok ∧ ∀ n, n ≤ 6 → (m.pw n).Bt kB) ∧ ∀ r, IsOrd m r → post r M
theorem one_bt : Six.one.Bt kB := Six.Bt.mono (j := 1) ⟨.of (by decide) (by decide), .of (by decide) (by decide), .of (by decide) (by decide), .of (by decide) (by decide), .of (by decide) (by decide), .of (by decide) (by decide)⟩ kBof
theorem maps_get {C : Addr} {hs : List Six} {i : Nat} {d : D} (h : (hs.map (gmD C))[i]? = some d) : ∃ m, hs[i]? = some m ∧ d = gmD C m := by
  rw [List.getElem?_map] at h
  cases q : hs[i]? with
  | none => rw [q] at h; cases h
  | some n => rw [q] at h; exact ⟨n, rfl, (Option.some.inj h).symm⟩
theorem six_dec (g h : Six) : ∃ r : Bool, r = true ↔ g = h := by
  by_cases q : g = h
  · exact ⟨true, by simp [q]⟩
  · exact ⟨false, by simp [q]⟩
def Six.s (m : Six) : GO.S6 := ⟨m.a, m.b, m.c, m.d, m.e, m.f⟩
theorem Six.s_inj {g h : Six} (e : g.s = h.s) : g = h := by
  cases g; cases h
  simp only [Six.s, GO.S6.mk.injEq] at e
  simp only [Six.mk.injEq]
  exact e
theorem Six.s_pw (m : Six) : ∀ n, (m.pw n).s = GO.pw m.s n
  | 0 => rfl
  | n + 1 => by
    show ((m.pw n).then m).s = GO.th (GO.pw m.s n) m.s
    rw [← Six.s_pw m n]
    rfl
theorem Six.assoc (g h k : Six) : (g.then h).then k = g.then (h.then k) := Six.s_inj (GO.th_assoc g.s h.s k.s)
/-- a finite order of at most 12 is one of at most 6 -/
theorem Six.fin {m : Six} (ok : m.Ok) {n : Nat} (h12 : n < 12) (h : m.pw n = Six.one) : ∃ k, k < 6 ∧ m.pw k = Six.one := by
  rcases Nat.lt_or_ge n 6 with z | z
  · exact ⟨n, z, h⟩
  · obtain ⟨k, hk, e⟩ := GO.fin (m := m.s) ok z h12 (by rw [← Six.s_pw, h]; rfl)
    exact ⟨k, hk, Six.s_inj (by rw [Six.s_pw, e]; rfl)⟩
theorem Six.one_then (m : Six) : Six.one.then m = m := by
  cases m
  simp [Six.then, Six.one]
theorem Six.then_one (m : Six) : m.then Six.one = m := by
  cases m
  simp [Six.then, Six.one]
theorem Six.then_inv {m : Six} (ok : m.Ok) : m.then m.inv = Six.one := by
  obtain ⟨a, b, c, d, e, f⟩ := m
  have h : a * d - b * c = 1 ∨ a * d - b * c = -1 := ok
  simp only [Six.then, Six.inv, Six.det, Six.one, Six.mk.injEq]
  rcases h with h | h <;> rw [h] <;> refine ⟨?_, ?_, ?_, ?_, ?_, ?_⟩ <;> grind
theorem Six.inv_then {m : Six} (ok : m.Ok) : m.inv.then m = Six.one := by
  obtain ⟨a, b, c, d, e, f⟩ := m
  have h : a * d - b * c = 1 ∨ a * d - b * c = -1 := ok
  simp only [Six.then, Six.inv, Six.det, Six.one, Six.mk.injEq]
  rcases h with h | h <;> rw [h] <;> refine ⟨?_, ?_, ?_, ?_, ?_, ?_⟩ <;> grind
/-- carrier, then g, then back -/
theorem Six.conj_pw {c g : Six} (ok : c.Ok) : ∀ n, ((c.then g).then c.inv).pw n = (c.then (g.pw n)).then c.inv
  | 0 => rfl
  | n + 1 => by
    show (((c.then g).then c.inv).pw n).then _ = (c.then ((g.pw n).then g)).then c.inv
    rw [Six.conj_pw ok n]
    rw [Six.assoc (c.then (g.pw n)) c.inv, ← Six.assoc c.inv, ← Six.assoc c.inv c g, Six.inv_then ok, Six.one_then, ← Six.assoc, Six.assoc c (g.pw n) g]
theorem Six.conj_one {c g : Six} (ok : c.Ok) {n : Nat} : ((c.then g).then c.inv).pw n = Six.one ↔ g.pw n = Six.one := by
  rw [Six.conj_pw ok]
  constructor
  · intro h
    have h2 : c.inv.then (((c.then (g.pw n)).then c.inv).then c) = c.inv.then (Six.one.then c) := by rw [h]
    rw [Six.assoc (c.then (g.pw n)), Six.inv_then ok, Six.then_one, ← Six.assoc, Six.inv_then ok, Six.one_then, Six.one_then, Six.inv_then ok] at h2
    exact h2
  · intro h
    rw [h, Six.then_one, Six.then_inv ok]
theorem Six.conj_ord {c g : Six} (ok : c.Ok) {r : D} (h : IsOrd ((c.then g).then c.inv) r) : IsOrd g r := by
  rcases h with ⟨n, hn, e, h1, h2⟩ | ⟨e, h⟩
  · exact .inl ⟨n, hn, e, (Six.conj_one ok).mp h1, fun k hk z => h2 k hk ((Six.conj_one ok).mpr z)⟩
  · exact .inr ⟨e, fun k hk z => h k hk ((Six.conj_one ok).mpr z)⟩
/-- the order is one answer alone -/
theorem IsOrd.uniq {m : Six} {r r' : D} (h : IsOrd m r) (h' : IsOrd m r') : r = r' := by
  rcases h with ⟨n, hn, e, h1, h2⟩ | ⟨e, h⟩ <;> rcases h' with ⟨n', hn', e', h1', h2'⟩ | ⟨e', h'⟩
  · rcases Nat.lt_trichotomy n n' with z | z | z
    · exact absurd h1 (h2' n z)
    · subst z
      rw [e, e']
    · exact absurd h1' (h2 n' z)
  · exact absurd h1 (h' n hn)
  · exact absurd h1' (h n' hn')
  · rw [e, e']
end DL
namespace DL
open PySem L2
/-! ### tuples joined, slices -/
def cutD (l : List D) (lo hi : Option Int) : List D := (l.drop (HT.sIx l.length 0 lo)).take (HT.sIx l.length l.length hi - HT.sIx l.length 0 lo)
theorem cut_reps {K : PySem.W.Frag} {W : Hp} {xs : List V} {l : List D} (r : Reps K W xs l) (lo hi : Option Int) : Reps K W (cutV xs lo hi) (cutD l lo hi) := by
  unfold cutV cutD
  rw [r.length]
  exact (r.drop _).take _
section
variable {X : Cx} {Z : Ent} {e a b : Expr} {δ : Dl} {M : Mem} {post : DK} {pos p2 : Pos} {lo hi : Option Expr}
theorem ro_catT {K : PySem.W.Frag} {M : Mem} {l m : List D} (h : l.length + m.length ≤ sizeLine) (hl : l ≠ []) : RO K M (rCatT K) (.tup l) (.tup m) (.tup (l ++ m)) := fun W H v u Q sm _ rx ry k => by
  obtain ⟨a, xs, ev, ha, rs⟩ := rx.tup_inv
  subst ev
  obtain ⟨b, ys, ev, hb, rt⟩ := ry.tup_inv
  subst ev
  refine ⟨a, b, xs, ys, rfl, rfl, sqT_same sm ha, sqT_same sm hb, ?_, by rw [rs.length, rt.length]; exact h, fun ey => ?_, fun _ p hp => ?_⟩
  · intro z
    subst z
    cases rs
    exact hl rfl
  · subst ey
    cases rt
    exact k _ W H (Step.refl sm) (by rw [List.append_nil]; exact .tup ha rs)
  · have st := Step.new (o := .tup (xs ++ ys)) sm hp
    exact k _ _ _ st (.tup (SqT.of upd_same) ((rs.append rt).mono st.w))
theorem de_catT (h : DE X Z a δ M fun x M1 => DE X Z b δ M1 fun y M2 => ∃ l m, x = .tup l ∧ y = .tup m ∧ l.length + m.length ≤ sizeLine ∧ l ≠ [] ∧ post (.tup (l ++ m)) M2) : DE X Z (.BinOp a .Add b pos) δ M post :=
  de_op op_catT (h.imp fun x M1 h1 => h1.imp fun y M2 ⟨i, j, ex, ey, hc, hn, q⟩ => by subst ex ey; exact ⟨_, ro_catT hc hn, q⟩)
/-- e[lo:hi] of a tuple, not the whole of it; lo and hi ints or left out -/
theorem de_slT0 {l : List D} {i : Int} {j : Nat} {p3 : Pos} (h : DE X Z e δ M fun x M1 => ∃ l, x = .tup l ∧ ¬ (HT.sIx l.length l.length (some i) = l.length) ∧ post (.tup (cutD l none (some i))) M1) : DE X Z (.Subscript e (.Slice none (some (.Constant (.int i) j p3)) none p2) pos) δ M post := fun W σ H A Q k =>
  of_pe (pe_slice sl_tup pe_w po_none (po_some pe_int)) (h W σ H A _ fun v x M1 W1 H1 A1 s1 r1 ⟨l, ex, hn, hp⟩ => by
    subst ex
    obtain ⟨a, xs, ev, ha, rs⟩ := r1.tup_inv
    subst ev
    refine ⟨i, rfl, a, xs, rfl, sqT_same A1.same ha, fun z => hn (by rw [← rs.length]; exact z.2), fun p hp0 => ?_⟩
    have st := Step.new (o := .tup (cutV xs none (some i))) A1.same hp0
    exact k _ _ M1 _ _ (A1.step st) (s1.trans st.w) (.tup (SqT.of upd_same) ((cut_reps rs none (some i)).mono st.w)) hp)
end
theorem eqSixD {g h : Six} {A B : Prop} (h1 : g = h → A) (h2 : g ≠ h → B) : PlainD g.tup ∧ PlainD h.tup ∧ if PyData.eqv g.tup.py h.tup.py = true then A else B := by
  refine ⟨(six_lay g).ok, (six_lay h).ok, ?_⟩
  by_cases q : g = h
  · rw [if_pos ((six_eqv g h).mpr q)]
    exact h1 q
  · rw [if_neg (fun z => q ((six_eqv g h).mp z))]
    exact h2 q
abbrev tup4 (a b c d : Int) : D := .tup [.int a, .int b, .int c, .int d]
def spLProd : DSp := fun ds M post _ => ∃ a b c d p q r s : Int, ds = [tup4 a b c d, tup4 p q r s] ∧ ((FS.Bt kB a ∧ FS.Bt kB b ∧ FS.Bt kB c ∧ FS.Bt kB d) ∧ FS.Bt kB p ∧ FS.Bt kB q ∧ FS.Bt kB r ∧ FS.Bt kB s) ∧ post (tup4 (p * a + q * c) (p * b + q * d) (r * a + s * c) (r * b + s * d)) M
def spLGrid (C : Addr) : DSp := fun ds M post _ => ∃ m : Six, ds = [m.tup] ∧ (m.Ok ∧ m.Bt kB) ∧ post (gmD C m) M
def spLExp (C : Addr) : DSp := fun ds M post _ => ∃ m : Six, ds = [gmD C m] ∧ (m.Ok ∧ ∀ n, n ≤ 12 → (m.pw n).Bt kB) ∧ ∀ r, IsOrd m r → post r M
/-- sizes -/
theorem Six.Bt.then {j k : Nat} {g h : Six} (x : g.Bt j) (y : h.Bt k) : (g.then h).Bt (j + k + 2) := by
  obtain ⟨x1, x2, x3, x4, x5, x6⟩ := x
  obtain ⟨y1, y2, y3, y4, y5, y6⟩ := y
  have pr : ∀ {u v w z : Int}, FS.Bt k u → FS.Bt j v → FS.Bt k w → FS.Bt j z → FS.Bt (j + k + 1) (u * v + w * z) := fun a b c d => ((a.mul b).add (c.mul d)).mono (by omega)
  refine ⟨(pr y1 x1 y2 x3).mono (by omega), (pr y1 x2 y2 x4).mono (by omega), (pr y3 x1 y4 x3).mono (by omega), (pr y3 x2 y4 x4).mono (by omega), ?_, ?_⟩
  · exact ((pr y1 x5 y2 x6).add (y5.mono (by omega))).mono (by omega)
  · exact ((pr y3 x5 y4 x6).add (y6.mono (by omega))).mono (by omega)
theorem Six.Bt.pw {k : Nat} {m : Six} (h : m.Bt k) : ∀ n, (m.pw n).Bt ((n + 1) * (k + 2))
  | 0 => h.mono (by omega)
  | n + 1 => ((Six.Bt.pw h n).then h).mono (by
    have : (n + 1 + 1) * (k + 2) = (n + 1) * (k + 2) + (k + 2) := Nat.succ_mul _ _
    omega)
theorem Six.Bt.pw12 {k : Nat} {m : Six} (h : m.Bt k) (hk : k ≤ 7000) : ∀ n, n ≤ 12 → (m.pw n).Bt kB := fun n hn => (Six.Bt.pw h n).mono (kBof (by
  have : (n + 1) * (k + 2) ≤ 13 * 7002 := Nat.mul_le_mul (by omega) (by omega)
  omega))
def spLNum : DSp := fun ds M post _ => ∃ p : Addr, ds = [.adr p] ∧ Dr M p ∧ ∀ (m : Six) M', m.Ok → m.Bt 70 → Keeps M M' p → Dr M' p → post m.tup M'
def Ok4 (a b c d : Int) : Prop := a * d - b * c = 1 ∨ a * d - b * c = -1
theorem Ok4.mul {a b c d p q r s : Int} (h : Ok4 a b c d) (g : Ok4 p q r s) : Ok4 (p * a + q * c) (p * b + q * d) (r * a + s * c) (r * b + s * d) := by
  have e : (p * a + q * c) * (r * b + s * d) - (p * b + q * d) * (r * a + s * c) = (a * d - b * c) * (p * s - q * r) := by grind
  unfold Ok4 at *
  rw [e]
  rcases h with h | h <;> rcases g with g | g <;> rw [h, g] <;> decide
def Bt4 (k : Nat) (a b c d : Int) : Prop := FS.Bt k a ∧ FS.Bt k b ∧ FS.Bt k c ∧ FS.Bt k d
theorem Bt4.mul {j : Nat} {a b c d p q r s : Int} (h : Bt4 j a b c d) (g : Bt4 6 p q r s) : Bt4 (j + 7) (p * a + q * c) (p * b + q * d) (r * a + s * c) (r * b + s * d) := by
  obtain ⟨h1, h2, h3, h4⟩ := h
  obtain ⟨g1, g2, g3, g4⟩ := g
  have pr : ∀ {u v w z : Int}, FS.Bt 6 u → FS.Bt j v → FS.Bt 6 w → FS.Bt j z → FS.Bt (j + 7) (u * v + w * z) := fun a b c d => ((a.mul b).add (c.mul d)).mono (by omega)
  exact ⟨pr g1 h1 g2 h3, pr g1 h2 g2 h4, pr g3 h1 g4 h3, pr g3 h2 g4 h4⟩
theorem bt6 {x : Int} (h1 : -60 ≤ x) (h2 : x ≤ 60) : FS.Bt 6 x := FS.Bt.of (by omega) (by omega)
end DL
/-! lists of instances compared by !=, lists unpacked, //=, freezing. -/
namespace DL
namespace NeL
open PySem PySem.SeqAt
open AutoSeq1 (wpAny_loadPart')
open MeetsSeq MeetsSeq2 MeetsSeq3 SeqRoads2
section
variable {prog : Program} {w : World} {A : Around} {R : Result → Shared → Prop}
/-- the loop of != over two lists, item by item the same -/
theorem neRun (l b : Addr) (N : Nat) (I : Nat → Shared → Prop) (step : GQ.ListI prog w A (fun e s' => R (.error e) s') l b N I) (last : ∀ s, I N s → R (.ok (.ret (.bool false))) s) (m : Nat) :
    ∀ i : Nat, N - i = m → i ≤ N → ∀ s, I i s → wpAny (model prog w) A.in1 (Builtin.«list.__eq__.loop» ⟨[.ref l, .ref b, rawInt i, rawInt 3], []⟩) (GQ.FinOf prog w A R) (fun e s' => R (.error e) s') s := by
  induction m with
  | zero =>
    intro i em le s hI
    have ei : N = i := by omega
    obtain ⟨xs, ys, c, d, px, py, zx, zy, _⟩ := step i s hI
    have q : R (.ok (.ret (.bool false))) s := last s (by rw [ei]; exact hI)
    obtain ⟨hp, g, dr, tk, os⟩ := s
    wp_walk using wpAny_loadPart' px, wpAny_loadPart' py
    rw [show xs[((i : Nat) : Int).toNat]? = none by simp; omega, show ys[((i : Nat) : Int).toNat]? = none by simp; omega]
    wp_walk using wpAny_loadPart' px, wpAny_loadPart' py
    show R (.ok (.ret (.bool (xs.size != ys.size)))) _
    rw [zx, zy]
    simpa using q
  | succ m ih =>
    intro i em le s hI
    obtain ⟨xs, ys, c, d, px, py, zx, zy, one⟩ := step i s hI
    have lx : i < xs.size := by omega
    have ly : i < ys.size := by omega
    have here := one lx ly
    obtain ⟨hp, g, dr, tk, os⟩ := s
    wp_walk using wpAny_loadPart' px, wpAny_loadPart' py
    rw [show xs[((i : Nat) : Int).toNat]? = some xs[i] by simp [lx], show ys[((i : Nat) : Int).toNat]? = some ys[i] by simp [ly]]
    refine wpAny_bind (wpAny_mono here (fun r s2 z => ?_) fun _ _ x => x)
    obtain ⟨er, hI2⟩ := z
    subst er
    have more := ih (i + 1) (by omega) (by omega) s2 hI2
    have ec : ((i : Int) + 1) = ((i + 1 : Nat) : Int) := by omega
    obtain ⟨hp2, g2, d2, tk2, os2⟩ := s2
    wp_walk
    rw [ec]
    refine ⟨plainId_quiet plain_eq_loop _, codeAny_builtin entry_eq_loop ?_⟩
    rw [Around.under_plainId plain_eq_loop _]
    exact more
theorem neWhole (l b : Addr) (N : Nat) (I : Nat → Shared → Prop) (step : GQ.ListI prog w A (fun e s' => R (.error e) s') l b N I) (last : ∀ s, I N s → R (.ok (.ret (.bool false))) s) {s : Shared} (hI : I 0 s) :
    wpAny (model prog w) A.in1 (Builtin.«list.__ne__» ⟨[.ref l, .ref b], []⟩) (GQ.FinOf prog w A R) (fun e s' => R (.error e) s') s := by
  obtain ⟨xs, ys, c, d, px, py, zx, zy, _⟩ := step 0 s hI
  have more := neRun (A := A) (R := R) l b N I step last _ 0 rfl (Nat.zero_le _) s hI
  have kind := AutoSeq1.sub_list_list
  obtain ⟨hp, g, dr, tk, os⟩ := s
  have same : ¬ (xs.size != ys.size) = true := by simp [zx, zy]
  wp_walk using wpAny_loadPart' px, wpAny_loadPart' py
  refine ⟨plainId_quiet plain_eq_loop _, codeAny_builtin entry_eq_loop ?_⟩
  rw [Around.under_plainId plain_eq_loop _]
  exact more
end
section
variable {prog : Program} {w : World} {A : Around} {E : Value → Shared → Prop} {s : Shared}
theorem rcNe {l b : Addr} {N : Nat} {Q : Value → Shared → Prop} (hu : A.units < cLine) (I : Nat → Shared → Prop) (step : GQ.ListI prog w A E l b N I) (last : ∀ s, I N s → Q (.bool false) s) (hI : I 0 s) :
    wpAny (model prog w) A (richCompare .NotEq (.ref l) (.ref b)) Q E s := by
  obtain ⟨xs, ys, c, d, px, py, _, _, _⟩ := step 0 s hI
  refine wpAny_richCompare_same_room (op := .NotEq) ⟨_, px, rfl⟩ ⟨_, py, rfl⟩ F.slot_list_ne (GQ.call_here F.slot_list_ne ⟨_, px, rfl⟩ F.entry_list_ne (F.args_list_ne_2 _ _) ?_) hu
  exact neWhole (R := PySem.wants (fun v s' => v ≠ .notImplemented ∧ Q v s') E) l b N I step (fun s' q => ⟨(fun x => nomatch x), last s' q⟩) hI
end
end NeL
open PySem L2
/-! ### lists of instances, by !=: equal item by item -/
/-- J i H: behind i items -/
def rNeL (C : Addr) (sp : Sp) : R2 := fun x y H Q => ∃ l b xs ys, x = .ref l ∧ y = .ref b ∧ xs.length = ys.length ∧ ∃ J : Nat → Hp → Prop, J 0 H ∧ (∀ i H', J i H' → H' l = some (.lst xs) ∧ H' b = some (.lst ys)) ∧
  (∀ i H' u v, J i H' → xs[i]? = some u → ys[i]? = some v → ∃ a dx fs c dy gs, u = .ref a ∧ v = .ref c ∧ H' a = some (.ins C dx fs) ∧ H' c = some (.ins C dy gs) ∧ (a = c → J (i + 1) H') ∧ sp [u, v] H' (fun z H2 => z = .bl true ∧ J (i + 1) H2) fun _ _ _ => False) ∧
  ∀ H', J xs.length H' → Q (.bl false) H'
section
variable {X : Cx} {C g : Addr} {n : Nat}
theorem op_neL {sp : Sp} (c : EqC X.K C g) (F : FnR X.prog X.w X.K X.mg X.base (L2.CX X.prog X.w) n g sp) (hr : Room (n + 1) X.A) : OpR X (compareOp .NotEq) (rNeL C sp) := by
  intro pins s σ H x y v u Q I rx ry h
  obtain ⟨l, b, xs, ys, rfl, rfl, hlen, J, j0, jl, js, jq⟩ := h
  cases (show v = Value.ref l from rx)
  cases (show u = Value.ref b from ry)
  show wpAny _ _ (richCompare .NotEq (.ref l) (.ref b)) _ _ _
  refine NeL.rcNe (N := xs.length) hr.units0 (fun i s' => ∃ H', Inv X pins σ H' s' ∧ J i H') (fun i s' q => ?_) (fun s' q => ?_) ⟨H, I, j0⟩
  · obtain ⟨H', I', j⟩ := q
    obtain ⟨e1, e2⟩ := jl i H' j
    obtain ⟨z1, its, k1, r1, o1⟩ := I'.hok l _ e1
    obtain ⟨z2, its2, k2, r2, o2⟩ := I'.hok b _ e2
    refine ⟨its.toArray, its2.toArray, k1, k2, o1, o2, by rw [List.size_toArray, ← r1.length], by rw [List.size_toArray, ← r2.length, hlen], fun h1 h2 => ?_⟩
    have l1 : i < its.length := by simpa using h1
    have l2 : i < its2.length := by simpa using h2
    have m1 : i < xs.length := by rw [r1.length]; exact l1
    have m2 : i < ys.length := by rw [r2.length]; exact l2
    obtain ⟨uu, hu, ru⟩ := r1.get (List.getElem?_eq_getElem m1)
    obtain ⟨vv, hv, rv⟩ := r2.get (List.getElem?_eq_getElem m2)
    have eu : its.toArray[i] = uu := by
      rw [List.getElem?_eq_getElem l1] at hu
      simpa using Option.some.inj hu
    have ev : its2.toArray[i] = vv := by
      rw [List.getElem?_eq_getElem l2] at hv
      simpa using Option.some.inj hv
    rw [eu, ev]
    obtain ⟨a, dx, fs, d, dy, gs, q1, q2, ha, hd, same, call⟩ := js i H' _ _ j (List.getElem?_eq_getElem m1) (List.getElem?_eq_getElem m2)
    rw [q1] at ru
    rw [q2] at rv
    cases (show uu = Value.ref a from ru)
    cases (show vv = Value.ref d from rv)
    by_cases ad : a = d
    · subst ad
      exact SeqAt.EqAt.same (A := X.A.in1) (s := s') (.ref a) X.prog X.w X.xe _ ⟨rfl, H', I', same rfl⟩
    · refine GQ.eqBool_refG ad ?_
      obtain ⟨mA, K1, _⟩ := ins_get I'.hok ha
      obtain ⟨mB, K2, _⟩ := ins_get I'.hok hd
      obtain ⟨od, K1, _⟩ := K1.look
      obtain ⟨od', K2, _⟩ := K2.look
      obtain ⟨m, hF⟩ := I'.fr
      refine PySem.W.cmp_K (op := .Eq) (tb := .ref C) hr.in1.units0 hF I'.ok.mod.kin K1 K2.type c.nf c.eq c.fn ?_
      have e0 : Env0 X.prog X.w X.K X.mg X.base X.A.in1 X.stack s' H' := I'.env0.in1
      rw [q1, q2] at call
      refine wpAny_call (codeAny_mono (F X.A.in1 X.stack s' H' [.ref a, .ref d] [.ref a, .ref d] _ (fun _ _ _ => False) hr.in1 e0 (.cons rfl (.cons rfl .nil)) call) fun r s2 hq => ?_)
      cases r with
      | error er => exact (cx_noA hq).elim
      | ok fl =>
        cases fl with
        | ret w =>
          obtain ⟨z, H2, I2, rz, ez, j2⟩ := I'.after hq
          subst ez
          have ew : w = Value.bool true := rz
          subst ew
          exact ⟨true, rfl, rfl, H2, I2, j2⟩
        | next => exact False.elim hq
        | brk => exact False.elim hq
        | cont => exact False.elim hq
  · obtain ⟨H', I', j⟩ := q
    exact ⟨.bl false, H', I', rfl, jq H' j⟩
end
section
variable {X : Cx} {Z : Ent} {e a b tg : Expr} {es : List Expr} {sts : List Stmt} {δ : Dl} {M : Mem} {P : DEnds} {pos : Pos} {C g : Addr} {n : Nat} {S : DSp} {ds : List D} {post : Dl → Mem → Prop}
/-- != of two lists of instances that are equal item by item -/
theorem dt_neL {tst : Bool → Mem → Prop} (c : EqC X.K C g) (F : FnD X.prog X.w X.K X.mg X.base n g S) (hr : Room (n + 1) X.A)
    (h : DE X Z a δ M fun x M1 => DE X Z b δ M1 fun y M2 => ∃ xs ys, x = .lst xs ∧ y = .lst ys ∧ xs.length = ys.length ∧ (∀ (i : Nat) (u v : D), xs[i]? = some u → ys[i]? = some v → (∃ ns l, u = .ins C ns l) ∧ (∃ ns l, v = .ins C ns l) ∧ S [u, v] M2 (fun d M3 => d = .bl true ∧ M3 = M2) (fun _ _ _ _ => False)) ∧ tst false M2)
    (hm : behindInMarks .NotEq b = false := by rfl) : DT X Z (.Compare a [.NotEq] [b] pos) δ M tst := fun W σ H A Q k =>
  of_pt (pt_cmpR (op_neL c F hr) pe_w pe_w hm) (h W σ H A _ fun v x M1 W1 H1 A1 s1 r1 h1 => h1 W1 σ H1 A1 _ fun u y M2 W2 H2 A2 s2 r2 ⟨xs, ys, ex, ey, hl, hi, hp⟩ => by
    subst ex
    subst ey
    obtain ⟨l1, vs, e1, g1, q1⟩ := (r1.mono s2).lst_inv
    obtain ⟨l2, us, e2, g2, q2⟩ := r2.lst_inv
    refine ⟨l1, l2, vs, us, e1, e2, by rw [q1.length, q2.length, hl], fun _ H' => ∃ W', At X.K Z δ M2 W' σ H' ∧ Same W2 W', ⟨W2, A2, Same.refl _⟩, ?_, ?_, ?_⟩
    · rintro i H' ⟨W', A', s'⟩
      exact ⟨A'.same _ _ (s' _ _ g1), A'.same _ _ (s' _ _ g2)⟩
    · rintro i H' p q ⟨W', A', s'⟩ ep eq
      obtain ⟨dp, hp', rp⟩ := q1.getV ep
      obtain ⟨dq, hq', rq⟩ := q2.getV eq
      obtain ⟨⟨ns, l, e3⟩, ⟨ns', l', e4⟩, hS⟩ := hi i dp dq hp' hq'
      subst e3
      subst e4
      obtain ⟨a1, dx, xs1, e5, g3, _⟩ := (rp.mono s').ins_inv
      obtain ⟨a2, dy, ys1, e6, g4, _⟩ := (rq.mono s').ins_inv
      refine ⟨a1, dx, _, a2, dy, _, e5, e6, A'.same _ _ g3, A'.same _ _ g4, fun _ => ⟨W', A', s'⟩, ?_⟩
      exact eq_data (A := C) A' (Same.refl _) (rp.mono s') (rq.mono s') hS fun z d M' W3 H3 A3 s3 r3 ⟨ed, em⟩ => by
        subst ed
        subst em
        exact ⟨r3.bl_inv, W3, A3, s'.trans s3⟩
    · rintro H' ⟨W', A', s'⟩
      exact ⟨false, rfl, k false M2 W' H' A' (s1.trans (s2.trans s')) hp⟩)
/-- a, b, .. = a list -/
theorem dg_lst {k : Nat} (h : DGs X Z es ds δ M post) (hl : ds.length = es.length) (hc : X.calm = true := by rfl) (hn : (assignEach es X.env).length = es.length := by rfl) (hst : (assignEach es X.env).findIdx? (·.1) = none := by rfl) : DG X Z (.Tuple es k pos) (.lst ds) δ M post := fun W σ H v A r Q q => by
  obtain ⟨a, xs, e1, hs, rs⟩ := r.lst_inv
  subst e1
  exact of_pg (pg_lst hc pgs_w hn hst) ⟨a, xs, rfl, .inl (.inl (A.same _ _ hs)), by rw [rs.length, hl], h W σ H xs A rs Q q⟩
/-- x //= e, by a positive number -/
theorem ds_augD (i : Nat) {x : Str} {pos' : Pos} (h : ∃ n, δ[i]? = some (some (.int n)) ∧ DE X Z e δ M fun d M1 => ∃ m, d = .int m ∧ CDivW n m ∧ P.nx (δ.set i (some (.int (n / m)))) M1) (hN : X.N.Nodup) (hi : X.N[i]? = some x := by rfl)
    (hx : Loc X.env.scope x := by first | exact Or.inl rfl | exact Or.inr rfl) (hf : X.fn x = true ∨ X.env.scope.names.lookup x = some .local := by first | exact .inl rfl | exact .inr rfl) : DS1 X Z (.AugAssign (.Name x pos') .FloorDiv e pos) δ M P := fun W σ H A Dn f => by
  obtain ⟨n, hn, h⟩ := h
  obtain ⟨v, hσ, r⟩ := A.env i _ hn
  have e1 := r.int_inv
  subst e1
  refine of_ps (ps_aug hN hi hx pe_w iop_fdivW hf) ⟨_, hσ, h W σ H A _ fun u d M1 W1 H1 A1 s1 r1 ⟨m, em, hc, p⟩ => ?_⟩
  subst em
  have e2 := r1.int_inv
  subst e2
  exact ⟨n, m, rfl, rfl, hc, f.nx _ M1 W1 _ H1 (A1.setσ (.int (n / m))) s1 p⟩
/-- a list that changes no more -/
theorem ds_frz (i : Nat) {p : Addr} {l : List D} (hi : δ[i]? = some (some (.adr p))) (hp : M p = some (.lst l)) (hz : Z.H p = none) (h : DS X Z sts (δ.set i (some (.lst l))) (M.del p) P) : DS X Z sts δ M P := fun W σ H A Dn f => by
  obtain ⟨_, ho, h1, h2⟩ := A.cel p _ hp
  cases h2 with
  | @lst xs _ r =>
    obtain ⟨A2, s2⟩ := A.freeze hp hz h1
    obtain ⟨v, q1, q2⟩ := A.env i _ hi
    cases q2
    have A3 : At X.K Z (δ.set i (some (.lst l))) (M.del p) (upd W p (.lst xs)) σ H := by
      refine ⟨A2.fr, A2.same, fun j d e => ?_, by rw [List.length_set]; exact A2.len, A2.cel⟩
      by_cases z : i = j
      · subst z
        rw [List.getElem?_set_self (by obtain ⟨w, _⟩ := List.getElem?_eq_some_iff.mp hi; exact w)] at e
        cases e
        exact ⟨_, q1, .lst upd_same (r.mono s2)⟩
      · rw [List.getElem?_set_ne z] at e
        exact A2.env j d e
    exact h _ σ H A3 Dn (f.mono s2)
end
/-! ### powers of a map, for laws -/
def Six.np (m : Six) : Nat → Six
  | 0 => Six.one
  | n + 1 => (m.np n).then m
theorem Six.np_ok {m : Six} (h : m.Ok) : ∀ n, (m.np n).Ok
  | 0 => (show Six.one.Ok from .inl (by decide))
  | n + 1 => (Six.np_ok h n).then h
theorem Six.np_add (m : Six) (i : Nat) : ∀ j, m.np (i + j) = (m.np i).then (m.np j)
  | 0 => (Six.then_one _).symm
  | j + 1 => by
    show (m.np (i + j)).then m = (m.np i).then ((m.np j).then m)
    rw [Six.np_add m i j, Six.assoc]
theorem Six.np_one (m : Six) : m.np 1 = m := Six.one_then m
theorem one_bt1 : Six.one.Bt 1 := ⟨.of (by decide) (by decide), .of (by decide) (by decide), .of (by decide) (by decide), .of (by decide) (by decide), .of (by decide) (by decide), .of (by decide) (by decide)⟩
theorem Six.Bt.np {k : Nat} {m : Six} (h : m.Bt k) : ∀ n, (m.np n).Bt (n * (k + 2) + 1)
  | 0 => Six.Bt.mono (show (m.np 0).Bt 1 from one_bt1) (by omega)
  | n + 1 => ((Six.Bt.np h n).then h).mono (by
    have : (n + 1) * (k + 2) = n * (k + 2) + (k + 2) := Nat.succ_mul _ _
    omega)
/-- the map that power() turns about -/
def Six.sg (m : Six) (e : Int) : Six := if 0 ≤ e then m else m.inv
def Six.mp (m : Six) (e : Int) : Six := (m.sg e).np e.natAbs
theorem Six.sg_ok {m : Six} (h : m.Ok) (e : Int) : (m.sg e).Ok := by
  unfold Six.sg
  split
  · exact h
  · exact h.inv
theorem Six.Bt.inv' {k : Nat} {m : Six} (h : m.Ok) (b : m.Bt k) : m.inv.Bt (2 * k + 4) := by
  obtain ⟨b1, b2, b3, b4, b5, b6⟩ := b
  have hd : FS.Bt 1 m.det := by
    rcases h with h | h <;> rw [h] <;> exact .of (by decide) (by decide)
  have pr : ∀ {u v w z t s : Int}, FS.Bt 1 u → FS.Bt k v → FS.Bt k w → FS.Bt 1 z → FS.Bt k t → FS.Bt k s → FS.Bt (2 * k + 4) (-(u * v * w + z * t * s)) := fun a b c d e f => (FS.Bt.neg (((a.mul b).mul c).add ((d.mul e).mul f))).mono (by omega)
  exact ⟨(hd.mul b4).mono (by omega), (hd.neg.mul b2).mono (by omega), (hd.neg.mul b3).mono (by omega), (hd.mul b1).mono (by omega), pr hd b4 b5 hd.neg b2 b6, pr hd.neg b3 b5 hd b1 b6⟩
def spGApp (C : Addr) : DSp := fun ds M post _ => ∃ (m : Six) (x y : Int), ds = [gmD C m, pt x y] ∧ (m.Bt kB ∧ FS.Bt kB x ∧ FS.Bt kB y) ∧ post (pt (m.a * x + m.b * y + m.e) (m.c * x + m.d * y + m.f)) M
def Six.PwOk (m : Six) (e : Int) : Prop := m.Ok ∧ m.Bt kB ∧ m.inv.Bt kB ∧ ∀ n, n ≤ 2 * e.natAbs → ((m.sg e).np n).Bt kB
def spGPow (C : Addr) : DSp := fun ds M post _ => ∃ (m : Six) (e : Int), ds = [gmD C m, .int e] ∧ m.PwOk e ∧ post (gmD C (m.mp e)) M
/-- the wrong kind of exponent -/
def spGPowX (C : Addr) (E : Addr) : DSp := fun ds M _ xp => ∃ (m : Six) (d : D) (n : String), ds = [gmD C m, d] ∧ d.tyN = some n ∧ d.isInt = false ∧ xp E [] [] M
def NoGm (n : String) : Prop := n = "NoneType" ∨ n = "bool" ∨ n = "int" ∨ n = "str" ∨ n = "tuple" ∨ n = "list" ∨ n = "dict"
/-- one of the others is no map -/
def spGThenX (C : Addr) (E : Addr) : DSp := fun ds M _ xp => ∃ (g : Six) (hs : List Six) (d : D) (n : String) (rest : List D), ds = gmD C g :: (hs.map (gmD C) ++ d :: rest) ∧ (d.tyN = some n ∧ NoGm n) ∧ xp E [] [] M
def spGInit5 (C : Addr) : DSp := fun ds M post xp => spGInit C (ds ++ [.int 0]) M post xp
theorem mk5 {C : Addr} {M : Mem} {post : DK} {xp : DXK} {a b c d e : Int} (h : (⟨a, b, c, d, e, 0⟩ : Six).Ok) (hb : (⟨a, b, c, d, e, 0⟩ : Six).Bt kB) (q : post (gmD C ⟨a, b, c, d, e, 0⟩) M) : ∀ p, M p = none → spGInit5 C [.adr p, .int a, .int b, .int c, .int d, .int e] (M.set p (.ins C [] [])) (fun d M2 => d = .non ∧ ∃ ns l, M2 p = some (.ins C ns l) ∧ post (.ins C ns l) (M2.del p)) xp := fun p hp =>
  ⟨p, ⟨a, b, c, d, e, 0⟩, rfl, Mem.set_same, h, hb, rfl, _, _, Mem.set_same, by rw [Mem.set_set, Mem.del_set hp]; exact q⟩
def Six.im (m : Six) (p : Int × Int) : Int × Int := (m.a * p.1 + m.b * p.2 + m.e, m.c * p.1 + m.d * p.2 + m.f)
theorem Six.im_then (g h : Six) (p : Int × Int) : (g.then h).im p = h.im (g.im p) := by
  simp only [Six.im, Six.then, Prod.mk.injEq]
  constructor <;> grind
theorem Six.im_one (p : Int × Int) : Six.one.im p = p := by
  simp [Six.im, Six.one]
theorem Six.im_bt {m : Six} {k j : Nat} {p : Int × Int} (h : m.Bt k) (h1 : FS.Bt j p.1) (h2 : FS.Bt j p.2) : FS.Bt (k + j + 3) (m.im p).1 ∧ FS.Bt (k + j + 3) (m.im p).2 := by
  obtain ⟨b1, b2, b3, b4, b5, b6⟩ := h
  exact ⟨((((b1.mul h1).add (b2.mul h2))).add (b5.mono (show k ≤ k + j + 1 by omega))).mono (by omega), ((((b3.mul h1).add (b4.mul h2))).add (b6.mono (show k ≤ k + j + 1 by omega))).mono (by omega)⟩
abbrev ptD (p : Int × Int) : D := pt p.1 p.2
def spLImg : DSp := fun ds M post _ => ∃ (m : Six) (x y : Int), ds = [m.tup, pt x y] ∧ (m.Bt kB ∧ FS.Bt kB x ∧ FS.Bt kB y) ∧ post (ptD (m.im (x, y))) M
def spLRej (C : Addr) : DSp := fun ds M post _ => ∃ (g : Six) (d : D) (n : String), ds = [gmD C g, d] ∧ ((g.Ok ∧ g.Bt kB) ∧ (d.tyN = some n ∧ NoGm n) ∧ d.isInt = false) ∧ post (.bl true) M
def spLPow (C : Addr) : DSp := fun ds M post _ => ∃ (m : Six) (x y : Int), ds = [gmD C m, pt x y] ∧ ((m.Ok ∧ m.Bt 70) ∧ FS.Bt 20 x ∧ FS.Bt 20 y) ∧ post (.bl true) M
def threeD : List D := [.str "map", .str "map", .str "integer"]
theorem nePtE {a b c d : Int} {A B : Prop} (e : (a, b) = (c, d)) (h2 : B) : PlainD (pt a b) ∧ PlainD (pt c d) ∧ if (!PyData.eqv (pt a b).py (pt c d).py) = true then A else B := by
  cases e
  exact nePt (fun z => absurd ⟨rfl, rfl⟩ z) fun _ _ => h2
theorem eqP_same {n : Nat} {A : Bool → Prop} {x y : D} (h : Pd n x) (e : x = y) (q : A true) (hn : n ≤ 64 := by decide) : PlainD x ∧ PlainD y ∧ A (PyData.eqv x.py y.py) := by
  subst e
  rw [h.refl]
  exact ⟨h.ok hn, h.ok hn, q⟩
/-- by a known value -/
def IsD (d0 : D) (M0 : Mem) : DK := fun d M' => d = d0 ∧ M' = M0
theorem de_via {X : Cx} {Z : Ent} {e : Expr} {δ : Dl} {M M0 : Mem} {post : DK} (d0 : D) (h : DE X Z e δ M (IsD d0 M0)) (q : post d0 M0) : DE X Z e δ M post := h.imp fun d M' ⟨e1, e2⟩ => by
  subst e1
  subst e2
  exact q
end DL
namespace K07
open PySem L2 DL
def top (i : Nat) : Stmt := PySem.Challenge.pw_latticeshapes_k07_whole_maps_composed.main.body.getD i (.Pass ⟨0, 0, 0, 0⟩)
abbrev s_is_integer : Stmt := top 7
def d_is_integer : DefP := ⟨fun K => He.ga K "is_integer", "is_integer", "is_integer", defArgs s_is_integer, defBody s_is_integer, defScope s_is_integer, [], []⟩
abbrev N_is_integer : List Str := ["value"]
theorem sc_is_integer : FnScope ["value"] ["value"] (defScope s_is_integer) := ⟨rfl, rfl, rfl, by decide +kernel, rfl, by decide +kernel, by decide +kernel⟩
abbrev s_check_integer : Stmt := top 8
def d_check_integer : DefP := ⟨fun K => He.ga K "check_integer", "check_integer", "check_integer", defArgs s_check_integer, defBody s_check_integer, defScope s_check_integer, [.non], []⟩
abbrev N_check_integer : List Str := ["value", "least"]
theorem sc_check_integer : FnScope ["value", "least"] ["value", "least"] (defScope s_check_integer) := ⟨rfl, rfl, rfl, by decide +kernel, rfl, by decide +kernel, by decide +kernel⟩
abbrev s_is_point : Stmt := top 10
def d_is_point : DefP := ⟨fun K => He.ga K "is_point", "is_point", "is_point", defArgs s_is_point, defBody s_is_point, defScope s_is_point, [], []⟩
abbrev N_is_point : List Str := ["value", "item"]
theorem sc_is_point : FnScope ["value", "item"] ["value"] (defScope s_is_point) := ⟨rfl, rfl, rfl, by decide +kernel, rfl, by decide +kernel, by decide +kernel⟩
abbrev s_check_point : Stmt := top 11
def d_check_point : DefP := ⟨fun K => He.ga K "check_point", "check_point", "check_point", defArgs s_check_point, defBody s_check_point, defScope s_check_point, [], []⟩
abbrev N_check_point : List Str := ["value"]
theorem sc_check_point : FnScope ["value"] ["value"] (defScope s_check_point) := ⟨rfl, rfl, rfl, by decide +kernel, rfl, by decide +kernel, by decide +kernel⟩
abbrev s_GridMap___init__ : Stmt := inClass (top 13) 1
def d_GridMap___init__ : DefP := ⟨fun K => He.ma K (He.ga K "GridMap") "__init__", "__init__", "GridMap.__init__", defArgs s_GridMap___init__, defBody s_GridMap___init__, defScope s_GridMap___init__, [.int 0, .int 0], []⟩
abbrev N_GridMap___init__ : List Str := ["self", "a", "b", "c", "d", "e", "f", "number"]
theorem sc_GridMap___init__ : FnScope ["self", "a", "b", "c", "d", "e", "f", "number"] ["self", "a", "b", "c", "d", "e", "f"] (defScope s_GridMap___init__) := ⟨rfl, rfl, rfl, by decide +kernel, rfl, by decide +kernel, by decide +kernel⟩
abbrev s_GridMap___eq__ : Stmt := inClass (top 13) 2
def d_GridMap___eq__ : DefP := ⟨fun K => He.ma K (He.ga K "GridMap") "__eq__", "__eq__", "GridMap.__eq__", defArgs s_GridMap___eq__, defBody s_GridMap___eq__, defScope s_GridMap___eq__, [], []⟩
abbrev N_GridMap___eq__ : List Str := ["self", "other"]
theorem sc_GridMap___eq__ : FnScope ["self", "other"] ["self", "other"] (defScope s_GridMap___eq__) := ⟨rfl, rfl, rfl, by decide +kernel, rfl, by decide +kernel, by decide +kernel⟩
abbrev s_GridMap_identity : Stmt := inClass (top 13) 4
def d_GridMap_identity : DefP := ⟨fun K => He5.wf K (He.ga K "GridMap") "classmethod" "identity", "identity", "GridMap.identity", defArgs s_GridMap_identity, defBody s_GridMap_identity, defScope s_GridMap_identity, [], []⟩
abbrev N_GridMap_identity : List Str := ["cls"]
theorem sc_GridMap_identity : FnScope ["cls"] ["cls"] (defScope s_GridMap_identity) := ⟨rfl, rfl, rfl, by decide +kernel, rfl, by decide +kernel, by decide +kernel⟩
abbrev s_GridMap_shift : Stmt := inClass (top 13) 5
def d_GridMap_shift : DefP := ⟨fun K => He5.wf K (He.ga K "GridMap") "staticmethod" "shift", "shift", "GridMap.shift", defArgs s_GridMap_shift, defBody s_GridMap_shift, defScope s_GridMap_shift, [], []⟩
abbrev N_GridMap_shift : List Str := ["point"]
theorem sc_GridMap_shift : FnScope ["point"] ["point"] (defScope s_GridMap_shift) := ⟨rfl, rfl, rfl, by decide +kernel, rfl, by decide +kernel, by decide +kernel⟩
abbrev s_GridMap_numbers : Stmt := inClass (top 13) 6
def d_GridMap_numbers : DefP := ⟨fun K => recG K "property" (He.ga K "GridMap") "numbers", "numbers", "GridMap.numbers", defArgs s_GridMap_numbers, defBody s_GridMap_numbers, defScope s_GridMap_numbers, [], []⟩
abbrev N_GridMap_numbers : List Str := ["self"]
theorem sc_GridMap_numbers : FnScope ["self"] ["self"] (defScope s_GridMap_numbers) := ⟨rfl, rfl, rfl, by decide +kernel, rfl, by decide +kernel, by decide +kernel⟩
abbrev s_GridMap_determinant : Stmt := inClass (top 13) 7
def d_GridMap_determinant : DefP := ⟨fun K => recG K "property" (He.ga K "GridMap") "determinant", "determinant", "GridMap.determinant", defArgs s_GridMap_determinant, defBody s_GridMap_determinant, defScope s_GridMap_determinant, [], []⟩
abbrev N_GridMap_determinant : List Str := ["self", "a", "b", "c", "d", "e", "f"]
theorem sc_GridMap_determinant : FnScope ["self", "a", "b", "c", "d", "e", "f"] ["self"] (defScope s_GridMap_determinant) := ⟨rfl, rfl, rfl, by decide +kernel, rfl, by decide +kernel, by decide +kernel⟩
abbrev s_GridMap_image : Stmt := inClass (top 13) 9
def d_GridMap_image : DefP := ⟨fun K => He.ma K (He.ga K "GridMap") "image", "image", "GridMap.image", defArgs s_GridMap_image, defBody s_GridMap_image, defScope s_GridMap_image, [], []⟩
abbrev N_GridMap_image : List Str := ["self", "point", "a", "b", "c", "d", "e", "f"]
theorem sc_GridMap_image : FnScope ["self", "point", "a", "b", "c", "d", "e", "f"] ["self", "point"] (defScope s_GridMap_image) := ⟨rfl, rfl, rfl, by decide +kernel, rfl, by decide +kernel, by decide +kernel⟩
abbrev s_GridMap_apply : Stmt := inClass (top 13) 10
def d_GridMap_apply : DefP := ⟨fun K => He.ma K (He.ga K "GridMap") "apply", "apply", "GridMap.apply", defArgs s_GridMap_apply, defBody s_GridMap_apply, defScope s_GridMap_apply, [], []⟩
abbrev N_GridMap_apply : List Str := ["self", "point"]
theorem sc_GridMap_apply : FnScope ["self", "point"] ["self", "point"] (defScope s_GridMap_apply) := ⟨rfl, rfl, rfl, by decide +kernel, rfl, by decide +kernel, by decide +kernel⟩
abbrev s_GridMap_followed_by : Stmt := inClass (top 13) 11
def d_GridMap_followed_by : DefP := ⟨fun K => He.ma K (He.ga K "GridMap") "followed_by", "followed_by", "GridMap.followed_by", defArgs s_GridMap_followed_by, defBody s_GridMap_followed_by, defScope s_GridMap_followed_by, [], []⟩
abbrev N_GridMap_followed_by : List Str := ["self", "other", "a", "b", "c", "d", "e", "f", "p", "q", "r", "s", "t", "u", "shift"]
theorem sc_GridMap_followed_by : FnScope ["self", "other", "a", "b", "c", "d", "e", "f", "p", "q", "r", "s", "t", "u", "shift"] ["self", "other"] (defScope s_GridMap_followed_by) := ⟨rfl, rfl, rfl, by decide +kernel, rfl, by decide +kernel, by decide +kernel⟩
abbrev s_GridMap_then : Stmt := inClass (top 13) 12
def d_GridMap_then : DefP := ⟨fun K => He.ma K (He.ga K "GridMap") "then", "then", "GridMap.then", defArgs s_GridMap_then, defBody s_GridMap_then, defScope s_GridMap_then, [], []⟩
abbrev N_GridMap_then : List Str := ["self", "others", "other", "found"]
theorem sc_GridMap_then : FnScope ["self", "others", "other", "found"] ["self", "others"] (defScope s_GridMap_then) := ⟨rfl, rfl, rfl, by decide +kernel, rfl, by decide +kernel, by decide +kernel⟩
abbrev s_GridMap_inverse : Stmt := inClass (top 13) 13
def d_GridMap_inverse : DefP := ⟨fun K => He.ma K (He.ga K "GridMap") "inverse", "inverse", "GridMap.inverse", defArgs s_GridMap_inverse, defBody s_GridMap_inverse, defScope s_GridMap_inverse, [], []⟩
abbrev N_GridMap_inverse : List Str := ["self", "a", "b", "c", "d", "e", "f", "sign", "p", "q", "r", "s"]
theorem sc_GridMap_inverse : FnScope ["self", "a", "b", "c", "d", "e", "f", "sign", "p", "q", "r", "s"] ["self"] (defScope s_GridMap_inverse) := ⟨rfl, rfl, rfl, by decide +kernel, rfl, by decide +kernel, by decide +kernel⟩
abbrev s_GridMap_power : Stmt := inClass (top 13) 14
def d_GridMap_power : DefP := ⟨fun K => He.ma K (He.ga K "GridMap") "power", "power", "GridMap.power", defArgs s_GridMap_power, defBody s_GridMap_power, defScope s_GridMap_power, [], []⟩
abbrev N_GridMap_power : List Str := ["self", "exponent", "factor", "left", "found"]
theorem sc_GridMap_power : FnScope ["self", "exponent", "factor", "left", "found"] ["self", "exponent"] (defScope s_GridMap_power) := ⟨rfl, rfl, rfl, by decide +kernel, rfl, by decide +kernel, by decide +kernel⟩
abbrev s_GridMap_order : Stmt := inClass (top 13) 15
def d_GridMap_order : DefP := ⟨fun K => He.ma K (He.ga K "GridMap") "order", "order", "GridMap.order", defArgs s_GridMap_order, defBody s_GridMap_order, defScope s_GridMap_order, [], []⟩
abbrev N_GridMap_order : List Str := ["self", "found", "exponent"]
theorem sc_GridMap_order : FnScope ["self", "found", "exponent"] ["self"] (defScope s_GridMap_order) := ⟨rfl, rfl, rfl, by decide +kernel, rfl, by decide +kernel, by decide +kernel⟩
abbrev s_check_map : Stmt := top 14
def d_check_map : DefP := ⟨fun K => He.ga K "check_map", "check_map", "check_map", defArgs s_check_map, defBody s_check_map, defScope s_check_map, [], []⟩
abbrev N_check_map : List Str := ["value"]
theorem sc_check_map : FnScope ["value"] ["value"] (defScope s_check_map) := ⟨rfl, rfl, rfl, by decide +kernel, rfl, by decide +kernel, by decide +kernel⟩
abbrev s__law_draws : Stmt := top 16
def d__law_draws : DefP := ⟨fun K => He.ga K "_law_draws", "_law_draws", "_law_draws", defArgs s__law_draws, defBody s__law_draws, defScope s__law_draws, [], []⟩
abbrev N__law_draws : List Str := ["script", "k", "cell", "seed"]
theorem sc__law_draws : FnScope ["script", "k", "cell", "seed"] ["script", "k"] (defScope s__law_draws) := ⟨rfl, rfl, rfl, by decide +kernel, rfl, by decide +kernel, by decide +kernel⟩
abbrev s__law_draw : Stmt := top 17
def d__law_draw : DefP := ⟨fun K => He.ga K "_law_draw", "_law_draw", "_law_draw", defArgs s__law_draw, defBody s__law_draw, defScope s__law_draw, [], []⟩
abbrev N__law_draw : List Str := ["draws", "upto", "digit"]
theorem sc__law_draw : FnScope ["draws", "upto", "digit"] ["draws", "upto"] (defScope s__law_draw) := ⟨rfl, rfl, rfl, by decide +kernel, rfl, by decide +kernel, by decide +kernel⟩
abbrev s__law_product : Stmt := top 18
def d__law_product : DefP := ⟨fun K => He.ga K "_law_product", "_law_product", "_law_product", defArgs s__law_product, defBody s__law_product, defScope s__law_product, [], []⟩
abbrev N__law_product : List Str := ["first", "second", "a", "b", "c", "d", "p", "q", "r", "s"]
theorem sc__law_product : FnScope ["first", "second", "a", "b", "c", "d", "p", "q", "r", "s"] ["first", "second"] (defScope s__law_product) := ⟨rfl, rfl, rfl, by decide +kernel, rfl, by decide +kernel, by decide +kernel⟩
abbrev s__law_numbers : Stmt := top 19
def d__law_numbers : DefP := ⟨fun K => He.ga K "_law_numbers", "_law_numbers", "_law_numbers", defArgs s__law_numbers, defBody s__law_numbers, defScope s__law_numbers, [], []⟩
abbrev N__law_numbers : List Str := ["draws", "found", "turn", "k", "factors", "shift"]
theorem sc__law_numbers : FnScope ["draws", "found", "turn", "k", "factors", "shift"] ["draws"] (defScope s__law_numbers) := ⟨rfl, rfl, rfl, by decide +kernel, rfl, by decide +kernel, by decide +kernel⟩
abbrev s__law_image : Stmt := top 20
def d__law_image : DefP := ⟨fun K => He.ga K "_law_image", "_law_image", "_law_image", defArgs s__law_image, defBody s__law_image, defScope s__law_image, [], []⟩
abbrev N__law_image : List Str := ["numbers", "point", "a", "b", "c", "d", "e", "f"]
theorem sc__law_image : FnScope ["numbers", "point", "a", "b", "c", "d", "e", "f"] ["numbers", "point"] (defScope s__law_image) := ⟨rfl, rfl, rfl, by decide +kernel, rfl, by decide +kernel, by decide +kernel⟩
abbrev s__law_grid : Stmt := top 21
def d__law_grid : DefP := ⟨fun K => He.ga K "_law_grid", "_law_grid", "_law_grid", defArgs s__law_grid, defBody s__law_grid, defScope s__law_grid, [], []⟩
abbrev N__law_grid : List Str := ["numbers", "a", "b", "c", "d", "e", "f"]
theorem sc__law_grid : FnScope ["numbers", "a", "b", "c", "d", "e", "f"] ["numbers"] (defScope s__law_grid) := ⟨rfl, rfl, rfl, by decide +kernel, rfl, by decide +kernel, by decide +kernel⟩
abbrev s__law_rejected : Stmt := top 22
def d__law_rejected : DefP := ⟨fun K => He.ga K "_law_rejected", "_law_rejected", "_law_rejected", defArgs s__law_rejected, defBody s__law_rejected, defScope s__law_rejected, [], []⟩
abbrev N__law_rejected : List Str := ["grid", "value", "found", "function"]
theorem sc__law_rejected : FnScope ["grid", "value", "found", "function"] ["grid", "value"] (defScope s__law_rejected) := ⟨rfl, rfl, rfl, by decide +kernel, rfl, by decide +kernel, by decide +kernel⟩
abbrev s__law_powers_right : Stmt := top 23
def d__law_powers_right : DefP := ⟨fun K => He.ga K "_law_powers_right", "_law_powers_right", "_law_powers_right", defArgs s__law_powers_right, defBody s__law_powers_right, defScope s__law_powers_right, [], []⟩
abbrev N__law_powers_right : List Str := ["grid", "point", "back", "image", "start", "exponent"]
theorem sc__law_powers_right : FnScope ["grid", "point", "back", "image", "start", "exponent"] ["grid", "point"] (defScope s__law_powers_right) := ⟨rfl, rfl, rfl, by decide +kernel, rfl, by decide +kernel, by decide +kernel⟩
abbrev s_law : Stmt := top 24
def d_law : DefP := ⟨fun K => He.ga K "law", "law", "law", defArgs s_law, defBody s_law, defScope s_law, [], []⟩
abbrev N_law : List Str := ["script", "k", "draws", "some", "numbers", "grids", "point", "image", "one", "two", "three", "four", "identity", "small", "far", "turn"]
theorem sc_law : FnScope ["script", "k", "draws", "some", "numbers", "grids", "point", "image", "one", "two", "three", "four", "identity", "small", "far", "turn"] ["script"] (defScope s_law) := ⟨rfl, rfl, rfl, by decide +kernel, rfl, by decide +kernel, by decide +kernel⟩
def fn : List DefP := [d_is_integer, d_check_integer, d_is_point, d_check_point, d_GridMap___init__, d_GridMap___eq__, d_GridMap_identity, d_GridMap_shift, d_GridMap_numbers, d_GridMap_determinant, d_GridMap_image, d_GridMap_apply, d_GridMap_followed_by, d_GridMap_then, d_GridMap_inverse, d_GridMap_power, d_GridMap_order, d_check_map, d__law_draws, d__law_draw, d__law_product, d__law_numbers, d__law_image, d__law_grid, d__law_rejected, d__law_powers_right, d_law]
def fc : List Fc := [.fa (.glo "InvalidInteger"), .fa (.glo "is_integer"), .fa (.glo "is_point"), .fa (.glo "InvalidPoint"), .fa (.glo "check_integer"), .fa (.glo "InvalidMap"), .fa (.glo "GridMap"), .fa (.glo "check_point"), .fa (.glo "check_map"), .fa (.glo "_law_draw"), .fa (.glo "_law_product"), .fa (.glo "_law_draws"), .fa (.glo "_law_grid"), .fa (.glo "_law_numbers"), .fa (.glo "_law_image"), .fa (.glo "_law_powers_right"), .fa (.glo "_law_rejected"), .fa (.glo "law"), .fa (.free "isinstance"), .fa (.free "int"), .fa (.free "bool"), .fa (.free "tuple"), .fa (.free "all"), .fa (.free "len"), .fa (.free "abs"), .fa (.free "range"), .fa (.free "max"), .fa (.free "min"), .fa (.exc "InvalidInteger"), .fa (.exc "InvalidMap"), .fa (.exc "InvalidPoint"), .fa (.exm "InvalidMap" "InvalidMap" true), .fa (.exm "InvalidInteger" "InvalidMap" false), .fa (.exm "InvalidInteger" "InvalidInteger" true), .fa (.cls "GridMap"), .isi "GridMap", .fa (.mkr "GridMap"), .eqc "GridMap", .kit "NoneType" "GridMap" false, .kit "bool" "GridMap" false, .kit "int" "GridMap" false, .kit "str" "GridMap" false, .kit "tuple" "GridMap" false, .kit "list" "GridMap" false, .kit "dict" "GridMap" false, .kitO "GridMap" "GridMap" true, .con "GridMap" "MAX_ORDER" 6, .fa (.noat "GridMap" "six"), .cmet "GridMap" "identity", .prop "GridMap" "numbers", .prop "GridMap" "determinant", .fa (.meth "GridMap" "image"), .fa (.meth "GridMap" "apply"), .fa (.meth "GridMap" "followed_by"), .fa (.meth "GridMap" "then"), .fa (.meth "GridMap" "inverse"), .fa (.meth "GridMap" "power"), .fa (.meth "GridMap" "order")]
section
variable {K : PySem.W.Frag} {mg : Str → Option Value} (T : Ty fc fn K mg)
include T
theorem _root_.DL.Ty.g_InvalidInteger : mg "InvalidInteger" = some (.ref (He.ga K "InvalidInteger")) := T.glo 0
theorem _root_.DL.Ty.g_is_integer : mg "is_integer" = some (.ref (He.ga K "is_integer")) := T.glo 1
theorem _root_.DL.Ty.g_is_point : mg "is_point" = some (.ref (He.ga K "is_point")) := T.glo 2
theorem _root_.DL.Ty.g_InvalidPoint : mg "InvalidPoint" = some (.ref (He.ga K "InvalidPoint")) := T.glo 3
theorem _root_.DL.Ty.g_check_integer : mg "check_integer" = some (.ref (He.ga K "check_integer")) := T.glo 4
theorem _root_.DL.Ty.g_InvalidMap : mg "InvalidMap" = some (.ref (He.ga K "InvalidMap")) := T.glo 5
theorem _root_.DL.Ty.g_GridMap : mg "GridMap" = some (.ref (He.ga K "GridMap")) := T.glo 6
theorem _root_.DL.Ty.g_check_point : mg "check_point" = some (.ref (He.ga K "check_point")) := T.glo 7
theorem _root_.DL.Ty.g_check_map : mg "check_map" = some (.ref (He.ga K "check_map")) := T.glo 8
theorem _root_.DL.Ty.g__law_draw : mg "_law_draw" = some (.ref (He.ga K "_law_draw")) := T.glo 9
theorem _root_.DL.Ty.g__law_product : mg "_law_product" = some (.ref (He.ga K "_law_product")) := T.glo 10
theorem _root_.DL.Ty.g__law_draws : mg "_law_draws" = some (.ref (He.ga K "_law_draws")) := T.glo 11
theorem _root_.DL.Ty.g__law_grid : mg "_law_grid" = some (.ref (He.ga K "_law_grid")) := T.glo 12
theorem _root_.DL.Ty.g__law_numbers : mg "_law_numbers" = some (.ref (He.ga K "_law_numbers")) := T.glo 13
theorem _root_.DL.Ty.g__law_image : mg "_law_image" = some (.ref (He.ga K "_law_image")) := T.glo 14
theorem _root_.DL.Ty.g__law_powers_right : mg "_law_powers_right" = some (.ref (He.ga K "_law_powers_right")) := T.glo 15
theorem _root_.DL.Ty.g__law_rejected : mg "_law_rejected" = some (.ref (He.ga K "_law_rejected")) := T.glo 16
theorem _root_.DL.Ty.g_law : mg "law" = some (.ref (He.ga K "law")) := T.glo 17
theorem _root_.DL.Ty.n_isinstance : mg "isinstance" = none := T.free 18
theorem _root_.DL.Ty.n_int : mg "int" = none := T.free 19
theorem _root_.DL.Ty.n_bool : mg "bool" = none := T.free 20
theorem _root_.DL.Ty.n_tuple : mg "tuple" = none := T.free 21
theorem _root_.DL.Ty.n_all : mg "all" = none := T.free 22
theorem _root_.DL.Ty.n_len : mg "len" = none := T.free 23
theorem _root_.DL.Ty.n_abs : mg "abs" = none := T.free 24
theorem _root_.DL.Ty.n_range : mg "range" = none := T.free 25
theorem _root_.DL.Ty.n_max : mg "max" = none := T.free 26
theorem _root_.DL.Ty.n_min : mg "min" = none := T.free 27
abbrev i_InvalidInteger : Nat := 28
abbrev g_InvalidInteger : Nat := 0
abbrev i_InvalidMap : Nat := 29
abbrev g_InvalidMap : Nat := 5
abbrev i_InvalidPoint : Nat := 30
abbrev g_InvalidPoint : Nat := 3
abbrev x_InvalidMap_InvalidMap : Nat := 31
abbrev x_InvalidInteger_InvalidMap : Nat := 32
abbrev x_InvalidInteger_InvalidInteger : Nat := 33
theorem _root_.DL.Ty.cls_GridMap : Cls K (He.ga K "GridMap") := T.cls 34
theorem _root_.DL.Ty.isi_GridMap : ClsI K (He.ga K "GridMap") := T.isi 35 34
theorem _root_.DL.Ty.mkr_GridMap : Mk K (He.ga K "GridMap") (He.ma K (He.ga K "GridMap") "__init__") := T.mkr 36
theorem _root_.DL.Ty.eqc_GridMap : EqC K (He.ga K "GridMap") (He.ma K (He.ga K "GridMap") "__eq__") := T.eqc 37
theorem _root_.DL.Ty.kit_NoneType_GridMap : PySem.W.kitOne K (.type "NoneType") (.ref (He.ga K "GridMap")) = some false := T.kit 38
theorem _root_.DL.Ty.kit_bool_GridMap : PySem.W.kitOne K (.type "bool") (.ref (He.ga K "GridMap")) = some false := T.kit 39
theorem _root_.DL.Ty.kit_int_GridMap : PySem.W.kitOne K (.type "int") (.ref (He.ga K "GridMap")) = some false := T.kit 40
theorem _root_.DL.Ty.kit_str_GridMap : PySem.W.kitOne K (.type "str") (.ref (He.ga K "GridMap")) = some false := T.kit 41
theorem _root_.DL.Ty.kit_tuple_GridMap : PySem.W.kitOne K (.type "tuple") (.ref (He.ga K "GridMap")) = some false := T.kit 42
theorem _root_.DL.Ty.kit_list_GridMap : PySem.W.kitOne K (.type "list") (.ref (He.ga K "GridMap")) = some false := T.kit 43
theorem _root_.DL.Ty.kit_dict_GridMap : PySem.W.kitOne K (.type "dict") (.ref (He.ga K "GridMap")) = some false := T.kit 44
theorem _root_.DL.Ty.kitO_GridMap : PySem.W.kitOne K (.ref (He.ga K "GridMap")) (.ref (He.ga K "GridMap")) = some true := T.kitO 45
theorem _root_.DL.Ty.con_GridMap_MAX_ORDER : ClX.CRead K (He.ga K "GridMap") (.type "type") ∧ ∃ u, ClX.CVal K (He.ga K "GridMap") (.type "type") "MAX_ORDER" (.int 6) u := T.con 46
theorem _root_.DL.Ty.na_GridMap_six : NoAttr K (He.ga K "GridMap") "six" := T.noat 47
theorem _root_.DL.Ty.c_GridMap_identity : ClX.CRead K (He.ga K "GridMap") (.type "type") ∧ ClX.CMet K (He.ga K "GridMap") (.type "type") "identity" (He.ma K (He.ga K "GridMap") "identity") (He5.wf K (He.ga K "GridMap") "classmethod" "identity") := T.cmet 48
theorem _root_.DL.Ty.p_GridMap_numbers : PropOf K (He.ga K "GridMap") "numbers" (He.ma K (He.ga K "GridMap") "numbers") (recG K "property" (He.ga K "GridMap") "numbers") := T.prop 49
theorem _root_.DL.Ty.p_GridMap_determinant : PropOf K (He.ga K "GridMap") "determinant" (He.ma K (He.ga K "GridMap") "determinant") (recG K "property" (He.ga K "GridMap") "determinant") := T.prop 50
theorem _root_.DL.Ty.m_GridMap_image : Meth K (He.ga K "GridMap") "image" (He.ma K (He.ga K "GridMap") "image") := T.meth 51
theorem _root_.DL.Ty.m_GridMap_apply : Meth K (He.ga K "GridMap") "apply" (He.ma K (He.ga K "GridMap") "apply") := T.meth 52
theorem _root_.DL.Ty.m_GridMap_followed_by : Meth K (He.ga K "GridMap") "followed_by" (He.ma K (He.ga K "GridMap") "followed_by") := T.meth 53
theorem _root_.DL.Ty.m_GridMap_then : Meth K (He.ga K "GridMap") "then" (He.ma K (He.ga K "GridMap") "then") := T.meth 54
theorem _root_.DL.Ty.m_GridMap_inverse : Meth K (He.ga K "GridMap") "inverse" (He.ma K (He.ga K "GridMap") "inverse") := T.meth 55
theorem _root_.DL.Ty.m_GridMap_power : Meth K (He.ga K "GridMap") "power" (He.ma K (He.ga K "GridMap") "power") := T.meth 56
theorem _root_.DL.Ty.m_GridMap_order : Meth K (He.ga K "GridMap") "order" (He.ma K (He.ga K "GridMap") "order") := T.meth 57
theorem _root_.DL.Ty.k_is_integer : PySem.W.keepIn K (.ref (He.ga K "is_integer")) = true := T.kp 0 (d := d_is_integer)
theorem _root_.DL.Ty.f_is_integer : ∃ fd, FunD K "is_integer" "is_integer" (defArgs s_is_integer) (defBody s_is_integer) (defScope s_is_integer) [] [] (He.ga K "is_integer") fd := T.def_ 0 (d := d_is_integer)
theorem _root_.DL.Ty.k_check_integer : PySem.W.keepIn K (.ref (He.ga K "check_integer")) = true := T.kp 1 (d := d_check_integer)
theorem _root_.DL.Ty.f_check_integer : ∃ fd, FunD K "check_integer" "check_integer" (defArgs s_check_integer) (defBody s_check_integer) (defScope s_check_integer) [.non] [] (He.ga K "check_integer") fd := T.def_ 1 (d := d_check_integer)
theorem _root_.DL.Ty.k_is_point : PySem.W.keepIn K (.ref (He.ga K "is_point")) = true := T.kp 2 (d := d_is_point)
theorem _root_.DL.Ty.f_is_point : ∃ fd, FunD K "is_point" "is_point" (defArgs s_is_point) (defBody s_is_point) (defScope s_is_point) [] [] (He.ga K "is_point") fd := T.def_ 2 (d := d_is_point)
theorem _root_.DL.Ty.k_check_point : PySem.W.keepIn K (.ref (He.ga K "check_point")) = true := T.kp 3 (d := d_check_point)
theorem _root_.DL.Ty.f_check_point : ∃ fd, FunD K "check_point" "check_point" (defArgs s_check_point) (defBody s_check_point) (defScope s_check_point) [] [] (He.ga K "check_point") fd := T.def_ 3 (d := d_check_point)
theorem _root_.DL.Ty.k_GridMap___init__ : PySem.W.keepIn K (.ref (He.ma K (He.ga K "GridMap") "__init__")) = true := T.kp 4 (d := d_GridMap___init__)
theorem _root_.DL.Ty.f_GridMap___init__ : ∃ fd, FunD K "__init__" "GridMap.__init__" (defArgs s_GridMap___init__) (defBody s_GridMap___init__) (defScope s_GridMap___init__) [.int 0, .int 0] [] (He.ma K (He.ga K "GridMap") "__init__") fd := T.def_ 4 (d := d_GridMap___init__)
theorem _root_.DL.Ty.k_GridMap___eq__ : PySem.W.keepIn K (.ref (He.ma K (He.ga K "GridMap") "__eq__")) = true := T.kp 5 (d := d_GridMap___eq__)
theorem _root_.DL.Ty.f_GridMap___eq__ : ∃ fd, FunD K "__eq__" "GridMap.__eq__" (defArgs s_GridMap___eq__) (defBody s_GridMap___eq__) (defScope s_GridMap___eq__) [] [] (He.ma K (He.ga K "GridMap") "__eq__") fd := T.def_ 5 (d := d_GridMap___eq__)
theorem _root_.DL.Ty.k_GridMap_identity : PySem.W.keepIn K (.ref (He5.wf K (He.ga K "GridMap") "classmethod" "identity")) = true := T.kp 6 (d := d_GridMap_identity)
theorem _root_.DL.Ty.f_GridMap_identity : ∃ fd, FunD K "identity" "GridMap.identity" (defArgs s_GridMap_identity) (defBody s_GridMap_identity) (defScope s_GridMap_identity) [] [] (He5.wf K (He.ga K "GridMap") "classmethod" "identity") fd := T.def_ 6 (d := d_GridMap_identity)
theorem _root_.DL.Ty.k_GridMap_shift : PySem.W.keepIn K (.ref (He5.wf K (He.ga K "GridMap") "staticmethod" "shift")) = true := T.kp 7 (d := d_GridMap_shift)
theorem _root_.DL.Ty.f_GridMap_shift : ∃ fd, FunD K "shift" "GridMap.shift" (defArgs s_GridMap_shift) (defBody s_GridMap_shift) (defScope s_GridMap_shift) [] [] (He5.wf K (He.ga K "GridMap") "staticmethod" "shift") fd := T.def_ 7 (d := d_GridMap_shift)
theorem _root_.DL.Ty.k_GridMap_numbers : PySem.W.keepIn K (.ref (recG K "property" (He.ga K "GridMap") "numbers")) = true := T.kp 8 (d := d_GridMap_numbers)
theorem _root_.DL.Ty.f_GridMap_numbers : ∃ fd, FunD K "numbers" "GridMap.numbers" (defArgs s_GridMap_numbers) (defBody s_GridMap_numbers) (defScope s_GridMap_numbers) [] [] (recG K "property" (He.ga K "GridMap") "numbers") fd := T.def_ 8 (d := d_GridMap_numbers)
theorem _root_.DL.Ty.k_GridMap_determinant : PySem.W.keepIn K (.ref (recG K "property" (He.ga K "GridMap") "determinant")) = true := T.kp 9 (d := d_GridMap_determinant)
theorem _root_.DL.Ty.f_GridMap_determinant : ∃ fd, FunD K "determinant" "GridMap.determinant" (defArgs s_GridMap_determinant) (defBody s_GridMap_determinant) (defScope s_GridMap_determinant) [] [] (recG K "property" (He.ga K "GridMap") "determinant") fd := T.def_ 9 (d := d_GridMap_determinant)
theorem _root_.DL.Ty.k_GridMap_image : PySem.W.keepIn K (.ref (He.ma K (He.ga K "GridMap") "image")) = true := T.kp 10 (d := d_GridMap_image)
theorem _root_.DL.Ty.f_GridMap_image : ∃ fd, FunD K "image" "GridMap.image" (defArgs s_GridMap_image) (defBody s_GridMap_image) (defScope s_GridMap_image) [] [] (He.ma K (He.ga K "GridMap") "image") fd := T.def_ 10 (d := d_GridMap_image)
theorem _root_.DL.Ty.k_GridMap_apply : PySem.W.keepIn K (.ref (He.ma K (He.ga K "GridMap") "apply")) = true := T.kp 11 (d := d_GridMap_apply)
theorem _root_.DL.Ty.f_GridMap_apply : ∃ fd, FunD K "apply" "GridMap.apply" (defArgs s_GridMap_apply) (defBody s_GridMap_apply) (defScope s_GridMap_apply) [] [] (He.ma K (He.ga K "GridMap") "apply") fd := T.def_ 11 (d := d_GridMap_apply)
theorem _root_.DL.Ty.k_GridMap_followed_by : PySem.W.keepIn K (.ref (He.ma K (He.ga K "GridMap") "followed_by")) = true := T.kp 12 (d := d_GridMap_followed_by)
theorem _root_.DL.Ty.f_GridMap_followed_by : ∃ fd, FunD K "followed_by" "GridMap.followed_by" (defArgs s_GridMap_followed_by) (defBody s_GridMap_followed_by) (defScope s_GridMap_followed_by) [] [] (He.ma K (He.ga K "GridMap") "followed_by") fd := T.def_ 12 (d := d_GridMap_followed_by)
theorem _root_.DL.Ty.k_GridMap_then : PySem.W.keepIn K (.ref (He.ma K (He.ga K "GridMap") "then")) = true := T.kp 13 (d := d_GridMap_then)
theorem _root_.DL.Ty.f_GridMap_then : ∃ fd, FunD K "then" "GridMap.then" (defArgs s_GridMap_then) (defBody s_GridMap_then) (defScope s_GridMap_then) [] [] (He.ma K (He.ga K "GridMap") "then") fd := T.def_ 13 (d := d_GridMap_then)
theorem _root_.DL.Ty.k_GridMap_inverse : PySem.W.keepIn K (.ref (He.ma K (He.ga K "GridMap") "inverse")) = true := T.kp 14 (d := d_GridMap_inverse)
theorem _root_.DL.Ty.f_GridMap_inverse : ∃ fd, FunD K "inverse" "GridMap.inverse" (defArgs s_GridMap_inverse) (defBody s_GridMap_inverse) (defScope s_GridMap_inverse) [] [] (He.ma K (He.ga K "GridMap") "inverse") fd := T.def_ 14 (d := d_GridMap_inverse)
theorem _root_.DL.Ty.k_GridMap_power : PySem.W.keepIn K (.ref (He.ma K (He.ga K "GridMap") "power")) = true := T.kp 15 (d := d_GridMap_power)
theorem _root_.DL.Ty.f_GridMap_power : ∃ fd, FunD K "power" "GridMap.power" (defArgs s_GridMap_power) (defBody s_GridMap_power) (defScope s_GridMap_power) [] [] (He.ma K (He.ga K "GridMap") "power") fd := T.def_ 15 (d := d_GridMap_power)
theorem _root_.DL.Ty.k_GridMap_order : PySem.W.keepIn K (.ref (He.ma K (He.ga K "GridMap") "order")) = true := T.kp 16 (d := d_GridMap_order)
theorem _root_.DL.Ty.f_GridMap_order : ∃ fd, FunD K "order" "GridMap.order" (defArgs s_GridMap_order) (defBody s_GridMap_order) (defScope s_GridMap_order) [] [] (He.ma K (He.ga K "GridMap") "order") fd := T.def_ 16 (d := d_GridMap_order)
theorem _root_.DL.Ty.k_check_map : PySem.W.keepIn K (.ref (He.ga K "check_map")) = true := T.kp 17 (d := d_check_map)
theorem _root_.DL.Ty.f_check_map : ∃ fd, FunD K "check_map" "check_map" (defArgs s_check_map) (defBody s_check_map) (defScope s_check_map) [] [] (He.ga K "check_map") fd := T.def_ 17 (d := d_check_map)
theorem _root_.DL.Ty.k__law_draws : PySem.W.keepIn K (.ref (He.ga K "_law_draws")) = true := T.kp 18 (d := d__law_draws)
theorem _root_.DL.Ty.f__law_draws : ∃ fd, FunD K "_law_draws" "_law_draws" (defArgs s__law_draws) (defBody s__law_draws) (defScope s__law_draws) [] [] (He.ga K "_law_draws") fd := T.def_ 18 (d := d__law_draws)
theorem _root_.DL.Ty.k__law_draw : PySem.W.keepIn K (.ref (He.ga K "_law_draw")) = true := T.kp 19 (d := d__law_draw)
theorem _root_.DL.Ty.f__law_draw : ∃ fd, FunD K "_law_draw" "_law_draw" (defArgs s__law_draw) (defBody s__law_draw) (defScope s__law_draw) [] [] (He.ga K "_law_draw") fd := T.def_ 19 (d := d__law_draw)
theorem _root_.DL.Ty.k__law_product : PySem.W.keepIn K (.ref (He.ga K "_law_product")) = true := T.kp 20 (d := d__law_product)
theorem _root_.DL.Ty.f__law_product : ∃ fd, FunD K "_law_product" "_law_product" (defArgs s__law_product) (defBody s__law_product) (defScope s__law_product) [] [] (He.ga K "_law_product") fd := T.def_ 20 (d := d__law_product)
theorem _root_.DL.Ty.k__law_numbers : PySem.W.keepIn K (.ref (He.ga K "_law_numbers")) = true := T.kp 21 (d := d__law_numbers)
theorem _root_.DL.Ty.f__law_numbers : ∃ fd, FunD K "_law_numbers" "_law_numbers" (defArgs s__law_numbers) (defBody s__law_numbers) (defScope s__law_numbers) [] [] (He.ga K "_law_numbers") fd := T.def_ 21 (d := d__law_numbers)
theorem _root_.DL.Ty.k__law_image : PySem.W.keepIn K (.ref (He.ga K "_law_image")) = true := T.kp 22 (d := d__law_image)
theorem _root_.DL.Ty.f__law_image : ∃ fd, FunD K "_law_image" "_law_image" (defArgs s__law_image) (defBody s__law_image) (defScope s__law_image) [] [] (He.ga K "_law_image") fd := T.def_ 22 (d := d__law_image)
theorem _root_.DL.Ty.k__law_grid : PySem.W.keepIn K (.ref (He.ga K "_law_grid")) = true := T.kp 23 (d := d__law_grid)
theorem _root_.DL.Ty.f__law_grid : ∃ fd, FunD K "_law_grid" "_law_grid" (defArgs s__law_grid) (defBody s__law_grid) (defScope s__law_grid) [] [] (He.ga K "_law_grid") fd := T.def_ 23 (d := d__law_grid)
theorem _root_.DL.Ty.k__law_rejected : PySem.W.keepIn K (.ref (He.ga K "_law_rejected")) = true := T.kp 24 (d := d__law_rejected)
theorem _root_.DL.Ty.f__law_rejected : ∃ fd, FunD K "_law_rejected" "_law_rejected" (defArgs s__law_rejected) (defBody s__law_rejected) (defScope s__law_rejected) [] [] (He.ga K "_law_rejected") fd := T.def_ 24 (d := d__law_rejected)
theorem _root_.DL.Ty.k__law_powers_right : PySem.W.keepIn K (.ref (He.ga K "_law_powers_right")) = true := T.kp 25 (d := d__law_powers_right)
theorem _root_.DL.Ty.f__law_powers_right : ∃ fd, FunD K "_law_powers_right" "_law_powers_right" (defArgs s__law_powers_right) (defBody s__law_powers_right) (defScope s__law_powers_right) [] [] (He.ga K "_law_powers_right") fd := T.def_ 25 (d := d__law_powers_right)
theorem _root_.DL.Ty.k_law : PySem.W.keepIn K (.ref (He.ga K "law")) = true := T.kp 26 (d := d_law)
theorem _root_.DL.Ty.f_law : ∃ fd, FunD K "law" "law" (defArgs s_law) (defBody s_law) (defScope s_law) [] [] (He.ga K "law") fd := T.def_ 26 (d := d_law)
end
section
variable {P : Program} {w : World} {K : PySem.W.Frag} {mg : Str → Option Value} {base : Heap}
theorem ok_is_integer (T : Ty fc fn K mg) : FnD P w K mg base 1 (He.ga K "is_integer") spIs := by
  obtain ⟨fd, F⟩ := T.f_is_integer
  have nd := sc_is_integer.nd
  refine fnD_all (fnD_ofD (k := 0) F sc_is_integer (fun _ _ _ _ ⟨_, _, e, _⟩ => by rw [e]; rfl) ?_) (F.bindsN fun _ _ _ _ _ _ us hl => match us, hl with | [_], _ => rfl)
  rintro cdv A outer s H E Z _ M post xp hr ⟨d, n, rfl, hn, hp⟩ hZ xt ho
  obtain ⟨b, c, hb, hc, e⟩ := kitInt hn
  rw [e] at hp
  refine ds_one (ds_ret (de_and (de_isi T.n_isinstance (da_cons (de_name 0 (da_cons (de_type T.n_int (da_nil ⟨_, _, _, _, rfl, hn, hb, ⟨_, rfl, ?_⟩⟩))))))))
  refine iteB (fun q => ?_) (fun q => ?_)
  · refine de_one (de_not (de_isi T.n_isinstance (da_cons (de_name 0 (da_cons (de_type T.n_bool (da_nil ⟨_, _, _, _, rfl, hn, hc, ⟨_, rfl, ?_⟩⟩)))))))
    rw [q] at hp
    exact hp
  · rw [q] at hp
    exact hp
end
section
variable {P : Program} {w : World} {K : PySem.W.Frag} {mg : Str → Option Value} {base : Heap}
theorem ok_check_integer (T : Ty fc fn K mg) : FnD P w K mg base 2 (He.ga K "check_integer") (spCk (He.ga K "InvalidInteger")) := by
  obtain ⟨fd, F⟩ := T.f_check_integer
  have nd := sc_check_integer.nd
  have G_is_integer := ok_is_integer (P := P) (w := w) (base := base) T
  have G : FnOk P w K mg base (L2.CX P w) 2 (He.ga K "check_integer") fd ["value", "least"] (spOf K (spCk2 (He.ga K "InvalidInteger"))) := by
    refine fnD_ofD (k := 1) F sc_check_integer (fun _ _ _ _ ⟨_, _, _, e, _⟩ => by rw [e]; rfl) ?_
    rintro cdv A outer s H E Z _ M post xp hr ⟨d, l, n, rfl, hn, hl, hp⟩ hZ xt ho
    refine ds_one (ds_if (DW.dt (dw_or (dt_not (dt_of (de_call G_is_integer (hr.mono (by decide)) T.g_is_integer T.k_is_integer xt (da_cons (de_name 0 (da_nil ⟨_, _, rfl, hn, ⟨_, rfl, ?_⟩⟩)))))))))
    refine iteB (fun q => ?_) (fun q => ?_)
    · rw [if_pos rfl]
      refine ds_one (ds_raiseY T i_InvalidInteger g_InvalidInteger xt ?_)
      cases d <;> first | exact hp | (cases q)
    · cases d with
      | int i =>
        refine dw_or1 (DW.dt (dw_and (dt_notN (de_name 1 ?_))))
        rcases hl with rfl | ⟨j, rfl⟩
        · refine iteB (fun q => by cases q) (fun _ => ?_)
          rw [if_neg (by decide)]
          exact ds_nil hp
        · refine iteB (fun _ => ?_) (fun q => by cases q)
          refine dw_and1 (dt_lt (de_name 0 (de_name 1 ⟨_, _, rfl, rfl, ?_⟩)))
          refine iteD (fun q => ?_) (fun q => ?_)
          · rw [show okD (.int i) (.int j) = false from by show (!decide (i < j)) = false; rw [decide_eq_true q]; rfl] at hp
            exact ds_one (ds_raiseY T i_InvalidInteger g_InvalidInteger xt hp)
          · rw [show okD (.int i) (.int j) = true from by show (!decide (i < j)) = true; rw [decide_eq_false q]; rfl] at hp
            exact ds_nil hp
      | _ => cases q
  obtain ⟨d0, e0, b0⟩ := F.binds1 (ps := ["value", "least"]) 2 1 (by simp) rfl fun _ _ _ _ _ _ _ us its hl hi => match us, its, hl, hi with | [_, _], [_], _, _ => ⟨_, rfl, rfl⟩
  obtain ⟨d1, e1, b1⟩ := F.binds1 (ps := ["value", "least"]) 1 0 (by simp) rfl fun _ _ _ _ _ _ _ us its hl hi => match us, its, hl, hi with | [_], [_], _, _ => ⟨_, rfl, rfl⟩
  have h0 := fnD_raw (dvs := []) (dds := []) G b0 e0 (fun _ => .nil)
  have h1 := fnD_raw (dvs := [.non]) (dds := [.non]) G b1 e1 (fun _ => .cons .non .nil)
  simp only [List.append_nil] at h0
  exact FnD.or h0 h1
end
section
variable {P : Program} {w : World} {K : PySem.W.Frag} {mg : Str → Option Value} {base : Heap}
theorem ok__law_draws (T : Ty fc fn K mg) : FnD P w K mg base 1 (He.ga K "_law_draws") spDraws := by
  obtain ⟨fd, F⟩ := T.f__law_draws
  have nd := sc__law_draws.nd
  refine fnD_all (fnD_ofD (k := 0) F sc__law_draws (fun _ _ _ _ ⟨_, _, e, _⟩ => by rw [e]; rfl) ?_) (F.bindsN fun _ _ _ _ _ _ us hl => match us, hl with | [_, _], _ => rfl)
  rintro cdv A outer s H E Z _ M post xp hr ⟨ns, k, rfl, hk, hp⟩ hZ xt ho
  subst hZ
  have rest : ∀ c : Int, DS (bodyX P w K mg base ["script", "k", "cell", "seed"] "_law_draws" (defScope s__law_draws) (He.ga K "_law_draws") cdv A outer s H E) Z ((defBody s__law_draws).drop 3) [some (.frl (ns.map .int)), some (.int k), some (.int c), none] Z.M { nx := fun _ M' => post .non M', rt := post } := fun c => by
    refine ds_cons (ds_set 3 (de_mod (de_mul (de_add (de_add (de_mod (de_name 2 (de_int ⟨_, _, rfl, rfl, by decide, (de_mul (de_int (de_name 1 ⟨_, _, rfl, rfl, mulOkL (by decide) (by decide), ⟨_, _, rfl, rfl, (de_int ⟨_, _, rfl, rfl, (de_int ⟨_, _, rfl, rfl, mulOkR (by decide) (by decide), (de_int ⟨_, _, rfl, rfl, by decide, ?_⟩)⟩)⟩)⟩⟩)))⟩))))))) nd)
    refine ds_one (ds_ret (de_lstM (da_cons (de_mul (de_name 2 (de_intB T.n_int (da_cons (de_ge (de_name 2 (de_powN 1000000000000000000 ⟨_, _, rfl, rfl, (da_nil ⟨_, rfl, ⟨_, _, rfl, rfl, mulOkR (by split <;> decide) (by split <;> decide), (da_cons (de_name 3 (da_nil ⟨szl, ?_⟩)))⟩⟩)⟩))))))))))
    exact fun p hM hH => hp p _ hM Keeps.set ⟨_, _, Mem.set_same, Int.emod_nonneg _ (by decide), Int.emod_lt_of_pos _ (by decide)⟩
  have mid : ∀ c : Int, DS (bodyX P w K mg base ["script", "k", "cell", "seed"] "_law_draws" (defScope s__law_draws) (He.ga K "_law_draws") cdv A outer s H E) Z ((defBody s__law_draws).drop 2) [some (.frl (ns.map .int)), some (.int k), some (.int c), none] Z.M { nx := fun _ M' => post .non M', rt := post } := fun c => by
    refine ds_cons (ds_if (dt_ge (de_name 1 (de_len T.n_len (da_cons (de_name 0 (da_nil ⟨_, _, rfl, rfl, ⟨_, _, rfl, rfl, ?_⟩⟩)))))))
    refine iteD (fun q => ?_) (fun q => ?_)
    · exact ds_one (ds_set 2 (de_mod (de_name 2 (de_int ⟨_, _, rfl, rfl, by decide, rest _⟩))) nd)
    · exact ds_nil (rest _)
  refine ds_cons (ds_set 2 (de_int ?_) nd)
  refine ds_cons (ds_if (dt_neD (hr.units) (de_name 0 (de_lst (da_nil ⟨szl, ⟨plainF ns, plainE, ?_⟩⟩)))))
  refine iteB (fun q => ?_) (fun q => ds_nil (mid 0))
  cases ns with
  | nil => cases q
  | cons n ns =>
    have hl : (0 : Int) < (((n :: ns).map D.int).length : Nat) := by simp
    have h1 := Int.emod_nonneg k (show ((((n :: ns).map D.int).length : Nat) : Int) ≠ 0 by omega)
    have h2 := Int.emod_lt_of_pos k hl
    exact ds_one (ds_set 2 (de_ixF (de_name 0 (de_mod (de_name 1 (de_len T.n_len (da_cons (de_name 0 (da_nil ⟨_, _, rfl, rfl, ⟨_, _, rfl, rfl, hl, ⟨_, _, _, rfl, rfl, atI_of h1 (by rw [List.getElem?_map, List.getElem?_eq_getElem (by simp only [List.length_map] at h1 h2 ⊢; omega)]; rfl), mid _⟩⟩⟩)))))))) nd)
theorem ok__law_draw (T : Ty fc fn K mg) : FnD P w K mg base 1 (He.ga K "_law_draw") spDraw := by
  obtain ⟨fd, F⟩ := T.f__law_draw
  have nd := sc__law_draw.nd
  refine fnD_all (fnD_ofD (k := 0) F sc__law_draw (fun _ _ _ _ ⟨_, _, e, _⟩ => by rw [e]; rfl) ?_) (F.bindsN fun _ _ _ _ _ _ us hl => match us, hl with | [_, _], _ => rfl)
  rintro cdv A outer s H E Z _ M post xp hr ⟨a, u, rfl, ⟨x, y, hM, hy, hy2⟩, ⟨hu, bu⟩, hp⟩ hZ xt ho
  refine ds_cons (ds_if (dt_gt (de_ixM (de_name 0 (de_int ⟨_, _, _, _, rfl, rfl, hM, rfl, (de_int ⟨_, _, rfl, rfl, ?_⟩)⟩)))))
  refine iteD (fun q => ?_) (fun q => ds_nil ?_)
  · refine ds_cons (ds_set 2 (de_mod (de_ixM (de_name 0 (de_int ⟨_, _, _, _, rfl, rfl, hM, rfl, (de_name 1 ⟨_, _, rfl, rfl, hu, ?_⟩)⟩)))) nd)
    refine ds_cons (ds_setIx (de_fdiv (de_ixM (de_name 0 (de_int ⟨_, _, _, _, rfl, rfl, hM, rfl, (de_name 1 ⟨_, _, rfl, rfl, divW 100 hu bu (by decide), (de_name 0 (de_int ⟨_, _, _, _, rfl, rfl, hM, rfl, ?_⟩))⟩)⟩)))))
    refine ds_one (ds_ret (de_name 2 ?_))
    exact hp _ _ (Int.emod_nonneg _ (by omega)) (Int.emod_lt_of_pos _ hu) Keeps.set ⟨_, _, Mem.set_same, hy, hy2⟩
  · refine ds_cons (ds_setIx (de_mod (de_add (de_mul (de_ixM (de_name 0 (de_int ⟨_, _, _, _, rfl, rfl, hM, rfl, (de_int ⟨_, _, rfl, rfl, mulOkR (by decide) (by decide), (de_int ⟨_, _, rfl, rfl, (de_int ⟨_, _, rfl, rfl, by decide, (de_name 0 (de_int ⟨_, _, _, _, rfl, rfl, hM, rfl, ?_⟩))⟩)⟩)⟩)⟩)))))))
    have h1 := Int.emod_nonneg (y * 48271 + 11) (show (2147483647 : Int) ≠ 0 by decide)
    have h2 := Int.emod_lt_of_pos (y * 48271 + 11) (show (0 : Int) < 2147483647 by decide)
    refine ds_one (ds_ret (de_mod (de_fdiv (de_mod (de_mul (de_ixM (de_name 0 (de_int ⟨_, _, _, _, rfl, rfl, Mem.set_same, rfl, (de_ixM (de_name 0 (de_int ⟨_, _, _, _, rfl, rfl, Mem.set_same, rfl, ⟨_, _, rfl, rfl, mulOkR (by omega) (by omega), (de_int ⟨_, _, rfl, rfl, by decide, (de_int ⟨_, _, rfl, rfl, divW 64 (by decide) (by decide) (by decide), (de_name 1 ⟨_, _, rfl, rfl, hu, ?_⟩)⟩)⟩)⟩⟩)))⟩))))))))
    exact hp _ _ (Int.emod_nonneg _ (by omega)) (Int.emod_lt_of_pos _ hu) Keeps.set ⟨_, _, Mem.set_same, h1, h2⟩
end
section
variable {P : Program} {w : World} {K : PySem.W.Frag} {mg : Str → Option Value} {base : Heap}
theorem ok_is_point (T : Ty fc fn K mg) : FnD P w K mg base 2 (He.ga K "is_point") spIsP := by
  obtain ⟨fd, F⟩ := T.f_is_point
  have nd := sc_is_point.nd
  have G_is_integer := ok_is_integer (P := P) (w := w) (base := base) T
  refine fnD_all (fnD_ofD (k := 1) F sc_is_point (fun _ _ _ _ ⟨_, e, _⟩ => by rw [e]; rfl) ?_) (F.bindsN fun _ _ _ _ _ _ us hl => match us, hl with | [_], _ => rfl)
  rintro cdv A outer s H E Z _ M post xp hr ⟨d, rfl, ⟨hn, hv⟩, hp⟩ hZ xt ho
  rcases tup_or d hn with ⟨l, rfl⟩ | ⟨hk, e, _⟩
  · obtain ⟨hz, hall⟩ := hv l rfl
    refine ds_one (ds_ret (de_and (de_isi T.n_isinstance (da_cons (de_name 0 (da_cons (de_type T.n_tuple (da_nil ⟨_, "tuple", "tuple", true, rfl, rfl, (by decide +kernel), ⟨_, rfl, ?_⟩⟩))))))))
    refine ifT ?_
    refine (de_and (de_eq (de_len T.n_len (da_cons (de_name 0 (da_nil ⟨_, _, rfl, rfl, (de_int ⟨_, _, rfl, rfl, ⟨_, rfl, ?_⟩⟩)⟩))))))
    by_cases h2 : l.length = 2
    · refine (show if decide ((l.length : Int) = 2) = true then _ else _ from ?_)
      rw [if_pos (decide_eq_true (by omega))]
      refine (de_one (de_all T.n_all (da_cons (de_lc [("item", 1)] (.nm 1) (di_tup (de_name 0 ⟨_, rfl, (lcMap (fun d => .bl d.isInt) ?_ ?_ (da_nil ⟨_, (show [D.lst (l.map fun d => .bl d.isInt)] = [D.lst ((l.map D.isInt).map D.bl)] by rw [List.map_map]; rfl), ?_⟩))⟩)) nd (blkOk_by (N := N_is_point) (sc := defScope s_is_point) (by decide +kernel)) (fun _ _ _ _ _ => pg_name (i := 1) nd rfl (Or.inl rfl))))))
      · intro i d hd
        exact ⟨_, rfl, fun Z1 s1 H1 C1 cl1 fp1 => (de_call G_is_integer (hr.mono (by decide)) T.g_is_integer T.k_is_integer XT.none (da_cons (de_name 1 (da_nil ⟨_, _, rfl, hall d (List.mem_of_getElem? hd), ⟨rfl, rfl⟩⟩))))⟩
      · exact hz
      · match l, h2, hp with
        | [a, b], _, hp =>
          rw [show ([a, b].map D.isInt).all id = isPt (.tup [a, b]) from by show (a.isInt && (b.isInt && true)) = (a.isInt && b.isInt); rw [Bool.and_true]]
          exact hp
    · refine (show if decide ((l.length : Int) = 2) = true then _ else _ from ?_)
      rw [if_neg (by rw [decide_eq_false (by omega)]; decide)]
      have e : isPt (.tup l) = false := by
        match l, h2 with
        | [], _ => rfl
        | [a], _ => rfl
        | [a, b], h => exact absurd rfl h
        | a :: b :: c :: l, _ => rfl
      rw [e] at hp
      exact hp
  · refine ds_one (ds_ret (de_and (de_isi T.n_isinstance (da_cons (de_name 0 (da_cons (de_type T.n_tuple (da_nil ⟨_, _, _, _, rfl, hn, hk, ⟨_, rfl, ?_⟩⟩))))))))
    refine ifF ?_
    rw [e] at hp
    exact hp
theorem ok_check_point (T : Ty fc fn K mg) : FnD P w K mg base 3 (He.ga K "check_point") (spCkP (He.ga K "InvalidPoint")) := by
  obtain ⟨fd, F⟩ := T.f_check_point
  have nd := sc_check_point.nd
  have G_is_point := ok_is_point (P := P) (w := w) (base := base) T
  refine fnD_all (fnD_ofD (k := 2) F sc_check_point (fun _ _ _ _ ⟨_, e, _⟩ => by rw [e]; rfl) ?_) (F.bindsN fun _ _ _ _ _ _ us hl => match us, hl with | [_], _ => rfl)
  rintro cdv A outer s H E Z _ M post xp hr ⟨d, rfl, hv, hp⟩ hZ xt ho
  refine ds_one (ds_if (dt_not (dt_of (de_call G_is_point (hr.mono (by decide)) T.g_is_point T.k_is_point xt (da_cons (de_name 0 (da_nil ⟨_, rfl, hv, ⟨_, rfl, ?_⟩⟩)))))))
  refine (show if (!isPt d) = true then _ else _ from ?_)
  cases q : isPt d with
  | true =>
    rw [q] at hp
    exact ifF (ds_nil hp)
  | false =>
    rw [q] at hp
    refine ifT ?_
    refine ds_one (ds_raiseY T i_InvalidPoint g_InvalidPoint xt ?_)
    exact hp
end
section
variable {P : Program} {w : World} {K : PySem.W.Frag} {mg : Str → Option Value} {base : Heap}
theorem okc_GridMap___init__ (T : Ty fc fn K mg) {fd : FuncData} (F : FunD K "__init__" "GridMap.__init__" (defArgs s_GridMap___init__) (defBody s_GridMap___init__) (defScope s_GridMap___init__) [.int 0, .int 0] [] (He.ma K (He.ga K "GridMap") "__init__") fd) : FnOk P w K mg base (L2.CX P w) 3 (He.ma K (He.ga K "GridMap") "__init__") fd ["self", "a", "b", "c", "d", "e", "f"] (spOf K (spGInit (He.ga K "GridMap"))) := by
  have nd := sc_GridMap___init__.nd
  have G_check_integer := ok_check_integer (P := P) (w := w) (base := base) T
  refine fnD_ofD (k := 2) F sc_GridMap___init__ (fun _ _ _ _ ⟨_, _, e, _⟩ => by rw [e]; rfl) ?_
  rintro cdv A outer s H E Z _ M post xp hr ⟨p, m, rfl, hM, hok, ⟨b1, b2, b3, b4, b5, b6⟩, hp⟩ hZ xt ho
  refine ds_cons (ds_for ho (fun i δ M' => M' = M ∧ ∃ o, δ = [some (.adr p), some (.int m.a), some (.int m.b), some (.int m.c), some (.int m.d), some (.int m.e), some (.int m.f), o]) (di_tup (de_tup (da_cons (de_name 1 (da_cons (de_name 2 (da_cons (de_name 3 (da_cons (de_name 4 (da_cons (de_name 5 (da_cons (de_name 6 (da_nil ⟨szl, ⟨_, rfl, ⟨⟨rfl, _, rfl⟩, ?_, ?_⟩⟩⟩))))))))))))))))
  · rintro i d δ M' hd ⟨rfl, o, rfl⟩
    obtain ⟨z, rfl⟩ : ∃ z : Int, d = .int z := by
      match i, hd with
      | 0, h => cases h; exact ⟨_, rfl⟩
      | 1, h => cases h; exact ⟨_, rfl⟩
      | 2, h => cases h; exact ⟨_, rfl⟩
      | 3, h => cases h; exact ⟨_, rfl⟩
      | 4, h => cases h; exact ⟨_, rfl⟩
      | 5, h => cases h; exact ⟨_, rfl⟩
      | n + 6, h => cases h
    refine dg_name 7 ?_ nd
    refine ds_one (ds_expr (de_call G_check_integer (hr.mono (by decide)) T.g_check_integer T.k_check_integer xt (da_cons (de_name 7 (da_nil (ck1 ?_))))))
    exact ⟨rfl, _, rfl⟩
  rintro δ M' ⟨rfl, o, rfl⟩
  refine ds_cons (ds_if (dt_ne (de_abs T.n_abs (da_cons (de_sub (de_mul (de_name 1 (de_name 4 ⟨_, _, rfl, rfl, mulOk kB kB b1 b4 kB2, (de_mul (de_name 2 (de_name 3 ⟨_, _, rfl, rfl, mulOk kB kB b2 b3 kB2, ⟨_, _, rfl, rfl, (da_nil ⟨_, rfl, (de_int ⟨_, _, rfl, rfl, ?_⟩)⟩)⟩⟩)))⟩))))))))
  refine iteN (fun q => absurd ?_ q) (fun _ => ds_nil ?_)
  · have : m.det = 1 ∨ m.det = -1 := hok
    show ((m.det).natAbs : Int) = 1
    omega
  refine ds_one (ds_fld (de_tup (da_cons (de_name 1 (da_cons (de_name 2 (da_cons (de_name 3 (da_cons (de_name 4 (da_cons (de_name 5 (da_cons (de_name 6 (da_nil ⟨szl, (de_name 0 ⟨_, _, _, _, rfl, hM, T.cls_GridMap, T.na_GridMap_six, rfl, by decide, ?_⟩)⟩)))))))))))))))
  exact hp
theorem ok_GridMap___init__ (T : Ty fc fn K mg) : FnD P w K mg base 3 (He.ma K (He.ga K "GridMap") "__init__") (spGInits (He.ga K "GridMap")) := by
  obtain ⟨fd, F⟩ := T.f_GridMap___init__
  have G := okc_GridMap___init__ (P := P) (w := w) (base := base) T F
  obtain ⟨d0, e0, c0⟩ := F.binds1 (ps := ["self", "a", "b", "c", "d", "e", "f"]) 7 2 (by simp) rfl fun _ _ _ _ _ _ _ us its hl hi => match us, its, hl, hi with | [_, _, _, _, _, _, _], [_, _], _, _ => ⟨_, rfl, rfl⟩
  obtain ⟨d1, e1, c1⟩ := F.binds1 (ps := ["self", "a", "b", "c", "d", "e", "f"]) 5 0 (by simp) rfl fun _ _ _ _ _ _ _ us its hl hi => match us, its, hl, hi with | [_, _, _, _, _], [_, _], _, _ => ⟨_, rfl, rfl⟩
  have h0 := fnD_raw (dvs := []) (dds := []) G c0 e0 (fun _ => .nil)
  have h1 := fnD_raw (dvs := [.int 0, .int 0]) (dds := [.int 0, .int 0]) G c1 e1 (fun _ => .cons (.int 0) (.cons (.int 0) .nil))
  simp only [List.append_nil] at h0
  exact FnD.or h0 h1
theorem ok5_GridMap___init__ (T : Ty fc fn K mg) : FnD P w K mg base 3 (He.ma K (He.ga K "GridMap") "__init__") (spGInit5 (He.ga K "GridMap")) := by
  obtain ⟨fd, F⟩ := T.f_GridMap___init__
  have G := okc_GridMap___init__ (P := P) (w := w) (base := base) T F
  obtain ⟨d1, e1, c1⟩ := F.binds1 (ps := ["self", "a", "b", "c", "d", "e", "f"]) 6 1 (by simp) rfl fun _ _ _ _ _ _ _ us its hl hi => match us, its, hl, hi with | [_, _, _, _, _, _], [_, _], _, _ => ⟨_, rfl, rfl⟩
  exact FnD.imp (fnD_raw (dvs := [.int 0]) (dds := [.int 0]) G c1 e1 (fun _ => .cons (.int 0) .nil)) fun _ _ _ _ h => h
theorem ok_GridMap_numbers (T : Ty fc fn K mg) : FnD P w K mg base 1 (recG K "property" (He.ga K "GridMap") "numbers") (spGNum (He.ga K "GridMap")) := by
  obtain ⟨fd, F⟩ := T.f_GridMap_numbers
  have nd := sc_GridMap_numbers.nd
  refine fnD_all (fnD_ofD (k := 0) F sc_GridMap_numbers (fun _ _ _ _ ⟨_, e, _⟩ => by rw [e]; rfl) ?_) (F.bindsN fun _ _ _ _ _ _ us hl => match us, hl with | [_], _ => rfl)
  rintro cdv A outer s H E Z _ M post xp hr ⟨m, rfl, hp⟩ hZ xt ho
  refine ds_one (ds_ret (de_fld (de_name 0 ⟨_, _, _, _, .inl rfl, T.cls_GridMap, T.na_GridMap_six, rfl, ?_⟩)))
  exact hp
theorem ok_GridMap_determinant (T : Ty fc fn K mg) : FnD P w K mg base 1 (recG K "property" (He.ga K "GridMap") "determinant") (spGDet (He.ga K "GridMap")) := by
  obtain ⟨fd, F⟩ := T.f_GridMap_determinant
  have nd := sc_GridMap_determinant.nd
  refine fnD_all (fnD_ofD (k := 0) F sc_GridMap_determinant (fun _ _ _ _ ⟨_, e, _⟩ => by rw [e]; rfl) ?_) (F.bindsN fun _ _ _ _ _ _ us hl => match us, hl with | [_], _ => rfl)
  rintro cdv A outer s H E Z _ M post xp hr ⟨m, rfl, ⟨b1, b2, b3, b4, b5, b6⟩, hp⟩ hZ xt ho
  refine ds_cons (ds_asg (de_fld (de_name 0 ⟨_, _, _, _, .inl rfl, T.cls_GridMap, T.na_GridMap_six, rfl, (dg_tup (dgs_cons (dg_name 1 (dgs_cons (dg_name 2 (dgs_cons (dg_name 3 (dgs_cons (dg_name 4 (dgs_cons (dg_name 5 (dgs_cons (dg_name 6 (dgs_nil ?_) nd)) nd)) nd)) nd)) nd)) nd)) rfl)⟩)))
  refine ds_one (ds_ret (de_sub (de_mul (de_name 1 (de_name 4 ⟨_, _, rfl, rfl, mulOk kB kB b1 b4 kB2, (de_mul (de_name 2 (de_name 3 ⟨_, _, rfl, rfl, mulOk kB kB b2 b3 kB2, ⟨_, _, rfl, rfl, ?_⟩⟩)))⟩)))))
  exact hp
theorem ok_GridMap_image (T : Ty fc fn K mg) : FnD P w K mg base 1 (He.ma K (He.ga K "GridMap") "image") (spGImg (He.ga K "GridMap")) := by
  obtain ⟨fd, F⟩ := T.f_GridMap_image
  have nd := sc_GridMap_image.nd
  refine fnD_all (fnD_ofD (k := 0) F sc_GridMap_image (fun _ _ _ _ ⟨_, _, _, e, _⟩ => by rw [e]; rfl) ?_) (F.bindsN fun _ _ _ _ _ _ us hl => match us, hl with | [_, _], _ => rfl)
  rintro cdv A outer s H E Z _ M post xp hr ⟨m, x, y, rfl, ⟨⟨b1, b2, b3, b4, b5, b6⟩, bx, by_⟩, hp⟩ hZ xt ho
  refine ds_cons (ds_asg (de_fld (de_name 0 ⟨_, _, _, _, .inl rfl, T.cls_GridMap, T.na_GridMap_six, rfl, (dg_tup (dgs_cons (dg_name 2 (dgs_cons (dg_name 3 (dgs_cons (dg_name 4 (dgs_cons (dg_name 5 (dgs_cons (dg_name 6 (dgs_cons (dg_name 7 (dgs_nil ?_) nd)) nd)) nd)) nd)) nd)) nd)) rfl)⟩)))
  refine ds_one (ds_ret (de_tup (da_cons (de_add (de_add (de_mul (de_name 2 (de_ixT (de_name 1 (de_int ⟨_, _, _, rfl, rfl, rfl, ⟨_, _, rfl, rfl, mulOk kB kB b1 bx kB2, (de_mul (de_name 3 (de_ixT (de_name 1 (de_int ⟨_, _, _, rfl, rfl, rfl, ⟨_, _, rfl, rfl, mulOk kB kB b2 by_ kB2, ⟨_, _, rfl, rfl, (de_name 6 ⟨_, _, rfl, rfl, (da_cons (de_add (de_add (de_mul (de_name 4 (de_ixT (de_name 1 (de_int ⟨_, _, _, rfl, rfl, rfl, ⟨_, _, rfl, rfl, mulOk kB kB b3 bx kB2, (de_mul (de_name 5 (de_ixT (de_name 1 (de_int ⟨_, _, _, rfl, rfl, rfl, ⟨_, _, rfl, rfl, mulOk kB kB b4 by_ kB2, ⟨_, _, rfl, rfl, (de_name 7 ⟨_, _, rfl, rfl, (da_nil ⟨szl, ?_⟩)⟩)⟩⟩⟩)))))⟩⟩))))))))⟩)⟩⟩⟩)))))⟩⟩))))))))))
  exact hp
theorem ok_GridMap_followed_by (T : Ty fc fn K mg) : FnD P w K mg base 5 (He.ma K (He.ga K "GridMap") "followed_by") (spGFol (He.ga K "GridMap")) := by
  obtain ⟨fd, F⟩ := T.f_GridMap_followed_by
  have nd := sc_GridMap_followed_by.nd
  have G_GridMap_numbers := ok_GridMap_numbers (P := P) (w := w) (base := base) T
  have G_GridMap_image := ok_GridMap_image (P := P) (w := w) (base := base) T
  have G_GridMap___init__ := ok_GridMap___init__ (P := P) (w := w) (base := base) T
  refine fnD_all (fnD_ofD (k := 4) F sc_GridMap_followed_by (fun _ _ _ _ ⟨_, _, e, _⟩ => by rw [e]; rfl) ?_) (F.bindsN fun _ _ _ _ _ _ us hl => match us, hl with | [_, _], _ => rfl)
  rintro cdv A outer s H E Z _ M post xp hr ⟨g, h, rfl, ⟨og, oh, bg, bh, bt⟩, hp⟩ hZ xt ho
  obtain ⟨g1, g2, g3, g4, g5, g6⟩ := id bg
  obtain ⟨h1, h2, h3, h4, h5, h6⟩ := id bh
  refine ds_cons (ds_asg (de_fld (de_name 0 ⟨_, _, _, _, .inl rfl, T.cls_GridMap, T.na_GridMap_six, rfl, (dg_tup (dgs_cons (dg_name 2 (dgs_cons (dg_name 3 (dgs_cons (dg_name 4 (dgs_cons (dg_name 5 (dgs_cons (dg_name 6 (dgs_cons (dg_name 7 (dgs_nil ?_) nd)) nd)) nd)) nd)) nd)) nd)) rfl)⟩)))
  refine ds_cons (ds_asg (de_prop T.cls_GridMap T.p_GridMap_numbers G_GridMap_numbers (hr.mono (by decide)) (de_name 1 ⟨_, _, .inl rfl, ⟨_, rfl, (dg_tup (dgs_cons (dg_name 8 (dgs_cons (dg_name 9 (dgs_cons (dg_name 10 (dgs_cons (dg_name 11 (dgs_cons (dg_name 12 (dgs_cons (dg_name 13 (dgs_nil ?_) nd)) nd)) nd)) nd)) nd)) nd)) rfl)⟩⟩)))
  simp only [List.map_cons, List.map_nil, List.length_cons, List.length_nil, List.cons_append, List.nil_append, List.set_cons_zero, List.set_cons_succ, List.replicate_succ, List.replicate_zero, Nat.reduceSub, Nat.reduceAdd, List.reduceReplicate]
  refine ds_cons (ds_set 14 (de_meth T.cls_GridMap T.m_GridMap_image G_GridMap_image (hr.mono (by decide)) xt (de_name 1 ⟨_, _, .inl rfl, rfl, (da_cons (de_tup (da_cons (de_name 6 (da_cons (de_name 7 (da_nil ⟨szl, (da_nil ⟨_, _, _, rfl, ?_, ?_⟩)⟩)))))))⟩)) nd)
  · exact ⟨bh, g5, g6⟩
  simp only [List.map_cons, List.map_nil, List.length_cons, List.length_nil, List.cons_append, List.nil_append, List.set_cons_zero, List.set_cons_succ, List.replicate_succ, List.replicate_zero, Nat.reduceSub, Nat.reduceAdd, List.reduceReplicate]
  have mo : ∀ {x y : Int}, FS.Bt kB x → FS.Bt kB y → IntMulOk x y := fun hx hy => mulOk kB kB hx hy kB2
  refine ds_one (ds_ret (de_make T.mkr_GridMap G_GridMap___init__ (hr.mono (by decide)) T.g_GridMap xt (da_cons (de_add (de_mul (de_name 8 (de_name 2 ⟨_, _, rfl, rfl, mo h1 g1, (de_mul (de_name 9 (de_name 4 ⟨_, _, rfl, rfl, mo h2 g3, ⟨_, _, rfl, rfl, (da_cons (de_add (de_mul (de_name 8 (de_name 3 ⟨_, _, rfl, rfl, mo h1 g2, (de_mul (de_name 9 (de_name 5 ⟨_, _, rfl, rfl, mo h2 g4, ⟨_, _, rfl, rfl, (da_cons (de_add (de_mul (de_name 10 (de_name 2 ⟨_, _, rfl, rfl, mo h3 g1, (de_mul (de_name 11 (de_name 4 ⟨_, _, rfl, rfl, mo h4 g3, ⟨_, _, rfl, rfl, (da_cons (de_add (de_mul (de_name 10 (de_name 3 ⟨_, _, rfl, rfl, mo h3 g2, (de_mul (de_name 11 (de_name 5 ⟨_, _, rfl, rfl, mo h4 g4, ⟨_, _, rfl, rfl, (da_cons (de_ixT (de_name 14 (de_int ⟨_, _, _, rfl, rfl, rfl, (da_cons (de_ixT (de_name 14 (de_int ⟨_, _, _, rfl, rfl, rfl, (da_nil (mk6 ?_ ?_ ?_))⟩))))⟩))))⟩⟩)))⟩)))))⟩⟩)))⟩)))))⟩⟩)))⟩)))))⟩⟩)))⟩)))))))
  · exact og.then oh
  · exact bt
  exact hp
theorem ok_GridMap_inverse (T : Ty fc fn K mg) : FnD P w K mg base 5 (He.ma K (He.ga K "GridMap") "inverse") (spGInv (He.ga K "GridMap")) := by
  obtain ⟨fd, F⟩ := T.f_GridMap_inverse
  have nd := sc_GridMap_inverse.nd
  have G_GridMap_determinant := ok_GridMap_determinant (P := P) (w := w) (base := base) T
  have G_GridMap___init__ := ok_GridMap___init__ (P := P) (w := w) (base := base) T
  refine fnD_all (fnD_ofD (k := 4) F sc_GridMap_inverse (fun _ _ _ _ ⟨_, e, _⟩ => by rw [e]; rfl) ?_) (F.bindsN fun _ _ _ _ _ _ us hl => match us, hl with | [_], _ => rfl)
  rintro cdv A outer s H E Z _ M post xp hr ⟨m, rfl, ⟨om, bm, bi⟩, hp⟩ hZ xt ho
  obtain ⟨b1, b2, b3, b4, b5, b6⟩ := id bm
  obtain ⟨i1, i2, i3, i4, i5, i6⟩ := id bi
  have hd : m.det = 1 ∨ m.det = -1 := om
  have ml : ∀ {y : Int}, IntMulOk m.det y := mulOkL (by omega) (by omega)
  have mn : ∀ {y : Int}, IntMulOk (-m.det) y := mulOkL (by omega) (by omega)
  have mo : ∀ {x y : Int}, FS.Bt kB x → FS.Bt kB y → IntMulOk x y := fun hx hy => mulOk kB kB hx hy kB2
  refine ds_cons (ds_asg (de_fld (de_name 0 ⟨_, _, _, _, .inl rfl, T.cls_GridMap, T.na_GridMap_six, rfl, (dg_tup (dgs_cons (dg_name 1 (dgs_cons (dg_name 2 (dgs_cons (dg_name 3 (dgs_cons (dg_name 4 (dgs_cons (dg_name 5 (dgs_cons (dg_name 6 (dgs_nil ?_) nd)) nd)) nd)) nd)) nd)) nd)) rfl)⟩)))
  simp only [List.map_cons, List.map_nil, List.length_cons, List.length_nil, List.cons_append, List.nil_append, List.set_cons_zero, List.set_cons_succ, List.replicate_succ, List.replicate_zero, Nat.reduceSub, Nat.reduceAdd, List.reduceReplicate]
  refine ds_cons (ds_set 7 (de_prop T.cls_GridMap T.p_GridMap_determinant G_GridMap_determinant (hr.mono (by decide)) (de_name 0 ⟨_, _, .inl rfl, ⟨_, rfl, bm, ?_⟩⟩)) nd)
  refine ds_cons (ds_asg (de_tup (da_cons (de_mul (de_name 7 (de_name 4 ⟨_, _, rfl, rfl, ml, (da_cons (de_mul (de_neg (de_name 7 ⟨_, rfl, (de_name 2 ⟨_, _, rfl, rfl, mn, (da_cons (de_mul (de_neg (de_name 7 ⟨_, rfl, (de_name 3 ⟨_, _, rfl, rfl, mn, (da_cons (de_mul (de_name 7 (de_name 1 ⟨_, _, rfl, rfl, ml, (da_nil ⟨szl, (dg_tup (dgs_cons (dg_name 8 (dgs_cons (dg_name 9 (dgs_cons (dg_name 10 (dgs_cons (dg_name 11 (dgs_nil ?_) nd)) nd)) nd)) nd)) rfl)⟩)⟩))))⟩)⟩))))⟩)⟩))))⟩))))))
  simp only [List.map_cons, List.map_nil, List.length_cons, List.length_nil, List.cons_append, List.nil_append, List.set_cons_zero, List.set_cons_succ, List.replicate_succ, List.replicate_zero, Nat.reduceSub, Nat.reduceAdd, List.reduceReplicate]
  refine ds_one (ds_ret (de_make T.mkr_GridMap G_GridMap___init__ (hr.mono (by decide)) T.g_GridMap xt (da_cons (de_name 8 (da_cons (de_name 9 (da_cons (de_name 10 (da_cons (de_name 11 (da_cons (de_neg (de_add (de_mul (de_name 8 (de_name 5 ⟨_, _, rfl, rfl, mo i1 b5, (de_mul (de_name 9 (de_name 6 ⟨_, _, rfl, rfl, mo i2 b6, ⟨_, _, rfl, rfl, ⟨_, rfl, (da_cons (de_neg (de_add (de_mul (de_name 10 (de_name 5 ⟨_, _, rfl, rfl, mo i3 b5, (de_mul (de_name 11 (de_name 6 ⟨_, _, rfl, rfl, mo i4 b6, ⟨_, _, rfl, rfl, ⟨_, rfl, (da_nil (mk6 om.inv bi ?_))⟩⟩⟩)))⟩))))))⟩⟩⟩)))⟩))))))))))))))))
  exact hp
theorem ok_GridMap_identity (T : Ty fc fn K mg) : FnD P w K mg base 5 (He5.wf K (He.ga K "GridMap") "classmethod" "identity") (spGIdn (He.ga K "GridMap")) := by
  obtain ⟨fd, F⟩ := T.f_GridMap_identity
  have nd := sc_GridMap_identity.nd
  have G_GridMap___init__ := ok_GridMap___init__ (P := P) (w := w) (base := base) T
  refine fnD_all (fnD_ofD (k := 4) F sc_GridMap_identity (fun _ _ _ _ ⟨e, _⟩ => by rw [e]; rfl) ?_) (F.bindsN fun _ _ _ _ _ _ us hl => match us, hl with | [_], _ => rfl)
  rintro cdv A outer s H E Z _ M post xp hr ⟨rfl, hp⟩ hZ xt ho
  refine ds_one (ds_ret (de_makeL 0 T.mkr_GridMap G_GridMap___init__ (hr.mono (by decide)) rfl (da_cons (de_int (da_cons (de_int (da_cons (de_int (da_cons (de_int (da_nil (mk4 (.inl (by decide)) ?_ hp))))))))))))
  exact Six.Bt.mono (j := 1) ⟨.of (by decide) (by decide), .of (by decide) (by decide), .of (by decide) (by decide), .of (by decide) (by decide), .of (by decide) (by decide), .of (by decide) (by decide)⟩ kBof
theorem ok_check_map (T : Ty fc fn K mg) : FnD P w K mg base 1 (He.ga K "check_map") (spGChk (He.ga K "GridMap") (He.ga K "InvalidMap")) := by
  obtain ⟨fd, F⟩ := T.f_check_map
  have nd := sc_check_map.nd
  refine fnD_all (fnD_ofD (k := 0) F sc_check_map (fun _ _ _ _ h => by rcases h with ⟨_, e, _⟩ | ⟨_, _, e, _⟩ <;> rw [e] <;> rfl) ?_) (F.bindsN fun _ _ _ _ _ _ us hl => match us, hl with | [_], _ => rfl)
  rintro cdv A outer s H E Z _ M post xp hr (⟨m, rfl, hp⟩ | ⟨d, n, rfl, hn, hk, hp⟩) hZ xt ho
  · refine ds_one (ds_if (dt_not (dt_of (de_isiC T.n_isinstance (da_cons (de_name 0 (da_cons (de_glob T.g_GridMap (da_nil ⟨_, _, _, _, rfl, .inr ⟨_, _, _, rfl, T.isi_GridMap, rfl⟩, T.kitO_GridMap, ⟨_, rfl, ?_⟩⟩)))))))))
    exact ifF (ds_nil hp)
  · have e : PySem.W.kitOne K (.type n) (.ref (He.ga K "GridMap")) = some false := by
      rcases hk with rfl | rfl | rfl | rfl | rfl | rfl | rfl
      · exact T.kit_NoneType_GridMap
      · exact T.kit_bool_GridMap
      · exact T.kit_int_GridMap
      · exact T.kit_str_GridMap
      · exact T.kit_tuple_GridMap
      · exact T.kit_list_GridMap
      · exact T.kit_dict_GridMap
    refine ds_one (ds_if (dt_not (dt_of (de_isiC T.n_isinstance (da_cons (de_name 0 (da_cons (de_glob T.g_GridMap (da_nil ⟨_, _, _, _, rfl, .inl ⟨_, hn, rfl⟩, e, ⟨_, rfl, ?_⟩⟩)))))))))
    refine ifT ?_
    refine ds_one (ds_raiseY T i_InvalidMap g_InvalidMap xt ?_)
    exact hp
theorem ok_GridMap___eq__ (T : Ty fc fn K mg) : FnD P w K mg base 1 (He.ma K (He.ga K "GridMap") "__eq__") (spGEq (He.ga K "GridMap")) := by
  obtain ⟨fd, F⟩ := T.f_GridMap___eq__
  have nd := sc_GridMap___eq__.nd
  refine fnD_all (fnD_ofD (k := 0) F sc_GridMap___eq__ (fun _ _ _ _ ⟨_, _, e, _⟩ => by rw [e]; rfl) ?_) (F.bindsN fun _ _ _ _ _ _ us hl => match us, hl with | [_, _], _ => rfl)
  rintro cdv A outer s H E Z _ M post xp hr ⟨g, h, rfl, r, hiff, hp⟩ hZ xt ho
  refine ds_one (ds_ret (de_and (de_isiC T.n_isinstance (da_cons (de_name 1 (da_cons (de_glob T.g_GridMap (da_nil ⟨_, _, _, _, rfl, .inr ⟨_, _, _, rfl, T.isi_GridMap, rfl⟩, T.kitO_GridMap, ⟨_, rfl, ?_⟩⟩))))))))
  refine ifT ?_
  refine (de_one (de_eqD (hr.units) (de_fld (de_name 0 ⟨_, _, _, _, .inl rfl, T.cls_GridMap, T.na_GridMap_six, rfl, (de_fld (de_name 1 ⟨_, _, _, _, .inl rfl, T.cls_GridMap, T.na_GridMap_six, rfl, eqSix (r := r) hiff hp⟩))⟩))))
end
section
variable {P : Program} {w : World} {K : PySem.W.Frag} {mg : Str → Option Value} {base : Heap}
theorem ok_GridMap_then (T : Ty fc fn K mg) : FnD P w K mg base 7 (He.ma K (He.ga K "GridMap") "then") (fun ds M post xp => (∃ d ds', ds = d :: ds' ∧ ds'.length ≤ sizeLine) ∧ spGThen (He.ga K "GridMap") (He.ga K "InvalidMap") ds M post xp) := by
  obtain ⟨fd, F⟩ := T.f_GridMap_then
  have nd := sc_GridMap_then.nd
  have G_check_map := ok_check_map (P := P) (w := w) (base := base) T
  have G_GridMap_followed_by := ok_GridMap_followed_by (P := P) (w := w) (base := base) T
  refine fnD_star1 (k := 6) F sc_GridMap_then (fun _ _ _ _ _ _ a => rfl) (fun _ _ _ _ _ _ a r rs => rfl) ?_
  rintro cdv A outer s H E Z d ds M post xp hr ⟨g, hs, e, ⟨og, hh, hb⟩, hp⟩ hZ xt ho
  cases e
  refine ds_cons (ds_for ho (fun i δ M' => M' = M ∧ ∃ o, δ = [some (gmD (He.ga K "GridMap") g), some (.tup (hs.map (gmD (He.ga K "GridMap")))), o, none]) (di_tup (de_name 1 ⟨_, rfl, ⟨⟨rfl, _, rfl⟩, ?_, ?_⟩⟩)))
  · rintro i d δ M' hd ⟨rfl, o, rfl⟩
    obtain ⟨h, _, rfl⟩ := maps_get hd
    refine dg_name 2 ?_ nd
    refine ds_one (ds_expr (de_call G_check_map (hr.mono (by decide)) T.g_check_map T.k_check_map xt (da_cons (de_name 2 (da_nil (.inl ⟨h, rfl, ?_⟩))))))
    exact ⟨rfl, _, rfl⟩
  rintro δ M' ⟨rfl, o, rfl⟩
  refine ds_cons (ds_set 3 (de_name 0 ?_) nd)
  refine ds_cons (ds_for ho (fun i δ M1 => M1 = M' ∧ ∃ o, δ = [some (gmD (He.ga K "GridMap") g), some (.tup (hs.map (gmD (He.ga K "GridMap")))), o, some (gmD (He.ga K "GridMap") (g.fold (hs.take i)))]) (di_tup (de_name 1 ⟨_, rfl, ⟨⟨rfl, _, rfl⟩, ?_, ?_⟩⟩)))
  · rintro i d δ M1 hd ⟨rfl, o, rfl⟩
    obtain ⟨h, hi, rfl⟩ := maps_get hd
    have hm := List.mem_of_getElem? hi
    refine dg_name 2 ?_ nd
    refine ds_one (ds_set 3 (de_meth T.cls_GridMap T.m_GridMap_followed_by G_GridMap_followed_by (hr.mono (by decide)) xt (de_name 3 ⟨_, _, .inl rfl, rfl, (da_cons (de_name 2 (da_nil ⟨_, _, rfl, ?_, ?_⟩)))⟩)) nd)
    · refine ⟨Six.fold_ok og fun x hx => (hh x (List.mem_of_mem_take hx)).1, (hh h hm).1, hb i, (hh h hm).2, ?_⟩
      rw [← Six.fold_take hi]
      exact hb (i + 1)
    · refine ⟨rfl, some (gmD (He.ga K "GridMap") h), ?_⟩
      rw [Six.fold_take hi]
      rfl
  rintro δ M1 ⟨rfl, o, rfl⟩
  refine ds_one (ds_ret (de_name 3 ?_))
  rw [List.length_map, List.take_length] at *
  exact hp
theorem ok_GridMap_order (T : Ty fc fn K mg) : FnD P w K mg base 7 (He.ma K (He.ga K "GridMap") "order") (spGOrd (He.ga K "GridMap")) := by
  obtain ⟨fd, F⟩ := T.f_GridMap_order
  have nd := sc_GridMap_order.nd
  have G_GridMap___eq__ := ok_GridMap___eq__ (P := P) (w := w) (base := base) T
  have G_GridMap_identity := ok_GridMap_identity (P := P) (w := w) (base := base) T
  have G_GridMap_followed_by := ok_GridMap_followed_by (P := P) (w := w) (base := base) T
  refine fnD_all (fnD_ofD (k := 6) F sc_GridMap_order (fun _ _ _ _ ⟨_, e, _⟩ => by rw [e]; rfl) ?_) (F.bindsN fun _ _ _ _ _ _ us hl => match us, hl with | [_], _ => rfl)
  rintro cdv A outer s H E Z _ M post xp hr ⟨m, rfl, ⟨om, hb⟩, hp⟩ hZ xt ho
  refine ds_cons (ds_set 1 (de_name 0 ?_) nd)
  refine ds_cons (ds_for ho (fun i δ M' => M' = M ∧ (∀ k, k < i → m.pw k ≠ Six.one) ∧ ∃ o, δ = [some (gmD (He.ga K "GridMap") m), some (gmD (He.ga K "GridMap") (m.pw i)), o]) (di_range2 T.n_range (de_int (de_add (de_cval T.con_GridMap_MAX_ORDER.1 (T.con_GridMap_MAX_ORDER.2.choose_spec) (de_glob T.g_GridMap ⟨rfl, (de_int ⟨_, _, rfl, rfl, ⟨_, _, rfl, rfl, ⟨by decide, by decide, by decide, by decide⟩, ⟨⟨rfl, fun k hk => absurd hk (Nat.not_lt_zero k), _, rfl⟩, ?_, ?_⟩⟩⟩)⟩))))))
  · rintro i d δ M' hd ⟨rfl, hno, o, rfl⟩
    obtain ⟨hi, rfl⟩ := rangeD_inv hd
    have hi6 : i < 6 := hi
    refine dg_name 2 ?_ nd
    obtain ⟨r, hr1⟩ := six_dec (m.pw i) Six.one
    refine ds_cons (ds_if (dt_eqO T.eqc_GridMap G_GridMap___eq__ (hr.mono (by decide)) (de_name 1 (de_cmeth0 T.c_GridMap_identity.1 T.c_GridMap_identity.2 G_GridMap_identity (hr.mono (by decide)) (de_glob T.g_GridMap ⟨rfl, ⟨rfl, ⟨⟨_, _, .inl rfl⟩, ⟨_, _, .inl rfl⟩, ⟨m.pw i, Six.one, rfl, r, hr1, ⟨r, rfl, ?_⟩⟩⟩⟩⟩)))))
    refine iteB (fun q => ?_) (fun q => ds_nil ?_)
    · refine ds_one (ds_ret (de_name 2 ?_))
      refine hp _ (.inl ⟨i, hi6, ?_, hr1.mp q, hno⟩)
      show D.int (1 + (i : Int)) = _
      rw [Int.add_comm]
    · have hne : m.pw i ≠ Six.one := fun z => by
        rw [hr1.mpr z] at q
        cases q
      refine ds_one (ds_set 1 (de_meth T.cls_GridMap T.m_GridMap_followed_by G_GridMap_followed_by (hr.mono (by decide)) xt (de_name 1 ⟨_, _, .inl rfl, rfl, (da_cons (de_name 0 (da_nil ⟨_, _, rfl, ?_, ?_⟩)))⟩)) nd)
      · exact ⟨Six.pw_ok om i, om, hb i (by omega), hb 0 (by omega), hb (i + 1) (by omega)⟩
      · refine ⟨rfl, fun k hk => ?_, _, rfl⟩
        rcases Nat.lt_or_ge k i with z | z
        · exact hno k z
        · have : k = i := by omega
          subst this
          exact hne
  · rintro δ M' ⟨rfl, hno, o, rfl⟩
    refine ds_one (ds_ret (de_non ?_))
    exact hp _ (.inr ⟨rfl, hno⟩)
end
section
variable {P : Program} {w : World} {K : PySem.W.Frag} {mg : Str → Option Value} {base : Heap}
theorem ok__law_product (T : Ty fc fn K mg) : FnD P w K mg base 1 (He.ga K "_law_product") spLProd := by
  obtain ⟨fd, F⟩ := T.f__law_product
  have nd := sc__law_product.nd
  refine fnD_all (fnD_ofD (k := 0) F sc__law_product (fun _ _ _ _ ⟨_, _, _, _, _, _, _, _, e, _⟩ => by rw [e]; rfl) ?_) (F.bindsN fun _ _ _ _ _ _ us hl => match us, hl with | [_, _], _ => rfl)
  rintro cdv A outer s0 H E Z _ M post xp hr ⟨a, b, c, d, p, q, r, s, rfl, ⟨⟨a1, a2, a3, a4⟩, p1, p2, p3, p4⟩, hp⟩ hZ xt ho
  have mo : ∀ {x y : Int}, FS.Bt kB x → FS.Bt kB y → IntMulOk x y := fun hx hy => mulOk kB kB hx hy kB2
  refine ds_cons (ds_asg (de_name 0 (dg_tup (dgs_cons (dg_name 2 (dgs_cons (dg_name 3 (dgs_cons (dg_name 4 (dgs_cons (dg_name 5 (dgs_nil ?_) nd)) nd)) nd)) nd)) rfl)))
  refine ds_cons (ds_asg (de_name 1 (dg_tup (dgs_cons (dg_name 6 (dgs_cons (dg_name 7 (dgs_cons (dg_name 8 (dgs_cons (dg_name 9 (dgs_nil ?_) nd)) nd)) nd)) nd)) rfl)))
  simp only [List.map_cons, List.map_nil, List.length_cons, List.length_nil, List.cons_append, List.nil_append, List.set_cons_zero, List.set_cons_succ, List.replicate_succ, List.replicate_zero, Nat.reduceSub, Nat.reduceAdd, List.reduceReplicate]
  refine ds_one (ds_ret (de_tup (da_cons (de_add (de_mul (de_name 6 (de_name 2 ⟨_, _, rfl, rfl, mo p1 a1, (de_mul (de_name 7 (de_name 4 ⟨_, _, rfl, rfl, mo p2 a3, ⟨_, _, rfl, rfl, (da_cons (de_add (de_mul (de_name 6 (de_name 3 ⟨_, _, rfl, rfl, mo p1 a2, (de_mul (de_name 7 (de_name 5 ⟨_, _, rfl, rfl, mo p2 a4, ⟨_, _, rfl, rfl, (da_cons (de_add (de_mul (de_name 8 (de_name 2 ⟨_, _, rfl, rfl, mo p3 a1, (de_mul (de_name 9 (de_name 4 ⟨_, _, rfl, rfl, mo p4 a3, ⟨_, _, rfl, rfl, (da_cons (de_add (de_mul (de_name 8 (de_name 3 ⟨_, _, rfl, rfl, mo p3 a2, (de_mul (de_name 9 (de_name 5 ⟨_, _, rfl, rfl, mo p4 a4, ⟨_, _, rfl, rfl, (da_nil ⟨szl, ?_⟩)⟩⟩)))⟩)))))⟩⟩)))⟩)))))⟩⟩)))⟩)))))⟩⟩)))⟩)))))))
  exact hp
theorem ok__law_grid (T : Ty fc fn K mg) : FnD P w K mg base 5 (He.ga K "_law_grid") (spLGrid (He.ga K "GridMap")) := by
  obtain ⟨fd, F⟩ := T.f__law_grid
  have nd := sc__law_grid.nd
  have G_GridMap___init__ := ok_GridMap___init__ (P := P) (w := w) (base := base) T
  refine fnD_all (fnD_ofD (k := 4) F sc__law_grid (fun _ _ _ _ ⟨_, e, _⟩ => by rw [e]; rfl) ?_) (F.bindsN fun _ _ _ _ _ _ us hl => match us, hl with | [_], _ => rfl)
  rintro cdv A outer s H E Z _ M post xp hr ⟨m, rfl, ⟨om, bm⟩, hp⟩ hZ xt ho
  refine ds_cons (ds_asg (de_name 0 (dg_tup (dgs_cons (dg_name 1 (dgs_cons (dg_name 2 (dgs_cons (dg_name 3 (dgs_cons (dg_name 4 (dgs_cons (dg_name 5 (dgs_cons (dg_name 6 (dgs_nil ?_) nd)) nd)) nd)) nd)) nd)) nd)) rfl)))
  simp only [List.map_cons, List.map_nil, List.length_cons, List.length_nil, List.cons_append, List.nil_append, List.set_cons_zero, List.set_cons_succ, List.replicate_succ, List.replicate_zero, Nat.reduceSub, Nat.reduceAdd, List.reduceReplicate]
  refine ds_one (ds_ret (de_make T.mkr_GridMap G_GridMap___init__ (hr.mono (by decide)) T.g_GridMap xt (da_cons (de_name 1 (da_cons (de_name 2 (da_cons (de_name 3 (da_cons (de_name 4 (da_cons (de_name 5 (da_cons (de_name 6 (da_nil (mk6' om bm hp))))))))))))))))
theorem ok__law_numbers (T : Ty fc fn K mg) : FnD P w K mg base 2 (He.ga K "_law_numbers") spLNum := by
  obtain ⟨fd, F⟩ := T.f__law_numbers
  have nd := sc__law_numbers.nd
  have G__law_draw := ok__law_draw (P := P) (w := w) (base := base) T
  have G__law_product := ok__law_product (P := P) (w := w) (base := base) T
  refine fnD_all (fnD_ofD (k := 1) F sc__law_numbers (fun _ _ _ _ ⟨_, e, _⟩ => by rw [e]; rfl) ?_) (F.bindsN fun _ _ _ _ _ _ us hl => match us, hl with | [_], _ => rfl)
  rintro cdv A outer s0 H E Z _ M post xp hr ⟨pa, rfl, hD, hp⟩ hZ xt ho
  refine ds_cons (ds_set 1 (de_tup (da_cons (de_int (da_cons (de_int (da_cons (de_int (da_cons (de_int (da_nil ⟨szl, ?_⟩)))))))))) nd)
  refine ds_cons (ds_for ho (fun i δ M' => Dr M' pa ∧ Keeps M M' pa ∧ ∃ a b c d o1 o2 o3, δ = [some (.adr pa), some (tup4 a b c d), o1, o2, o3, none] ∧ Ok4 a b c d ∧ Bt4 (7 * i + 1) a b c d) (di_range1 T.n_range (de_call G__law_draw (hr.mono (by decide)) T.g__law_draw T.k__law_draw xt (da_cons (de_name 0 (da_cons (de_int (da_nil ⟨_, _, rfl, hD, uOk, fun r2 M2 h2 l2 K2 U2 => ⟨_, rfl, ⟨by omega, by omega⟩, ⟨⟨U2, K2, 1, 0, 0, 1, none, none, none, rfl, .inl (by decide), .of (by decide) (by decide), .of (by decide) (by decide), .of (by decide) (by decide), .of (by decide) (by decide)⟩, ?_, ?_⟩⟩⟩))))))))
  · rintro i dd δ M' hd ⟨U, KK, a, b, c, d, o1, o2, o3, rfl, hok, hbt⟩
    obtain ⟨hi, rfl⟩ := rangeD_inv hd
    have hi4 : i < 5 := by omega
    refine dg_name 2 ?_ nd
    refine ds_cons (ds_set 3 (de_ixLI (de_lst (da_cons (de_sub (de_call G__law_draw (hr.mono (by decide)) T.g__law_draw T.k__law_draw xt (da_cons (de_name 0 (da_cons (de_int (da_nil ⟨_, _, rfl, U, uOk, fun r5 M5 h5 l5 K5 U5 => (de_int ⟨_, _, rfl, rfl, (da_cons (de_sub (de_call G__law_draw (hr.mono (by decide)) T.g__law_draw T.k__law_draw xt (da_cons (de_name 0 (da_cons (de_int (da_nil ⟨_, _, rfl, U5, uOk, fun r4 M4 h4 l4 K4 U4 => (de_int ⟨_, _, rfl, rfl, (da_nil ⟨szl, (de_call G__law_draw (hr.mono (by decide)) T.g__law_draw T.k__law_draw xt (da_cons (de_name 0 (da_cons (de_int (da_nil ⟨_, _, rfl, U4, uOk, fun r3 M3 h3 l3 K3 U3 => ⟨[_, _], _, rfl, rfl, h3, l3, ?_⟩⟩))))))⟩)⟩)⟩))))))))⟩)⟩)))))))))) nd)
    have hk : -30 ≤ [r5 - 3, r4 - 30].getD r3.toNat 0 ∧ [r5 - 3, r4 - 30].getD r3.toNat 0 ≤ 30 := getD_all (P := fun x => -30 ≤ x ∧ x ≤ 30) (fun x hx => by
      rcases List.mem_cons.mp hx with rfl | hx
      · exact ⟨by omega, by omega⟩
      rcases List.mem_cons.mp hx with rfl | hx
      · exact ⟨by omega, by omega⟩
      cases hx) h3 l3
    generalize hkk : [r5 - 3, r4 - 30].getD r3.toNat 0 = kk at hk ⊢
    obtain ⟨k1, k2⟩ := hk
    simp only [List.map_cons, List.map_nil, List.length_cons, List.length_nil, List.cons_append, List.nil_append, List.set_cons_zero, List.set_cons_succ, List.replicate_succ, List.replicate_zero, Nat.reduceSub, Nat.reduceAdd, List.reduceReplicate]
    refine ds_cons (ds_set 4 (de_lst (da_cons (de_tup (da_cons (de_int (da_cons (de_name 3 (da_cons (de_int (da_cons (de_int (da_nil ⟨szl, (da_cons (de_tup (da_cons (de_int (da_cons (de_int (da_cons (de_name 3 (da_cons (de_int (da_nil ⟨szl, (da_cons (de_tup (da_cons (de_int (da_cons (de_neg (de_int ⟨_, rfl, (da_cons (de_int (da_cons (de_int (da_nil ⟨szl, (da_cons (de_tup (da_cons (de_int (da_cons (de_int (da_cons (de_int (da_cons (de_neg (de_int ⟨_, rfl, (da_nil ⟨szl, (da_cons (de_tup (da_cons (de_int (da_cons (de_int (da_cons (de_int (da_cons (de_int (da_nil ⟨szl, (da_nil ⟨szl, ?_⟩)⟩)))))))))))⟩)⟩)))))))))))⟩)))))⟩)))))))⟩)))))))))))⟩)))))))))))) nd)
    simp only [List.map_cons, List.map_nil, List.length_cons, List.length_nil, List.cons_append, List.nil_append, List.set_cons_zero, List.set_cons_succ, List.replicate_succ, List.replicate_zero, Nat.reduceSub, Nat.reduceAdd, List.reduceReplicate]
    refine ds_one (ds_set 1 (de_call G__law_product (hr.mono (by decide)) T.g__law_product T.k__law_product xt (da_cons (de_name 1 (da_cons (de_ixAny (de_name 4 (de_call G__law_draw (hr.mono (by decide)) T.g__law_draw T.k__law_draw xt (da_cons (de_name 0 (da_cons (de_int (da_nil ⟨_, _, rfl, U3, uOk, fun r6 M6 h6 l6 K6 U6 => ⟨_, _, rfl, rfl, h6, l6, fun dd hdd => ?_⟩⟩)))))))))))) nd)
    have hf : ∃ p q r s, dd = tup4 p q r s ∧ Ok4 p q r s ∧ Bt4 6 p q r s := by
      rcases List.mem_cons.mp hdd with rfl | hdd
      · exact ⟨_, _, _, _, rfl, .inl (by omega), bt6 (by decide) (by decide), bt6 (by omega) (by omega), bt6 (by decide) (by decide), bt6 (by decide) (by decide)⟩
      rcases List.mem_cons.mp hdd with rfl | hdd
      · exact ⟨_, _, _, _, rfl, .inl (by omega), bt6 (by decide) (by decide), bt6 (by decide) (by decide), bt6 (by omega) (by omega), bt6 (by decide) (by decide)⟩
      rcases List.mem_cons.mp hdd with rfl | hdd
      · exact ⟨_, _, _, _, rfl, .inl (by decide), bt6 (by decide) (by decide), bt6 (by decide) (by decide), bt6 (by decide) (by decide), bt6 (by decide) (by decide)⟩
      rcases List.mem_cons.mp hdd with rfl | hdd
      · exact ⟨_, _, _, _, rfl, .inr (by decide), bt6 (by decide) (by decide), bt6 (by decide) (by decide), bt6 (by decide) (by decide), bt6 (by decide) (by decide)⟩
      rcases List.mem_cons.mp hdd with rfl | hdd
      · exact ⟨_, _, _, _, rfl, .inr (by decide), bt6 (by decide) (by decide), bt6 (by decide) (by decide), bt6 (by decide) (by decide), bt6 (by decide) (by decide)⟩
      cases hdd
    obtain ⟨p, q, r, s, rfl, fok, fbt⟩ := hf
    obtain ⟨x1, x2, x3, x4⟩ := id hbt
    obtain ⟨y1, y2, y3, y4⟩ := id fbt
    have u1 : 7 * i + 1 ≤ kB := Nat.le_trans (show 7 * i + 1 ≤ 36 by omega) kBof
    have u2 : 6 ≤ kB := kBof
    refine da_nil ⟨a, b, c, d, p, q, r, s, rfl, ⟨⟨x1.mono u1, x2.mono u1, x3.mono u1, x4.mono u1⟩, y1.mono u2, y2.mono u2, y3.mono u2, y4.mono u2⟩, ?_⟩
    simp only [List.map_cons, List.map_nil, List.length_cons, List.length_nil, List.cons_append, List.nil_append, List.set_cons_zero, List.set_cons_succ, List.replicate_succ, List.replicate_zero, Nat.reduceSub, Nat.reduceAdd, List.reduceReplicate]
    exact ⟨U6, ((((KK.trans K5).trans K4).trans K3).trans K6), _, _, _, _, _, _, _, rfl, hok.mul fok, hbt.mul fbt⟩
  · rintro δ M' ⟨U, KK, a, b, c, d, o1, o2, o3, rfl, hok, hbt⟩
    rw [rangeD_length] at hbt
    have bt8 : Bt4 70 a b c d := ⟨hbt.1.mono (by omega), hbt.2.1.mono (by omega), hbt.2.2.1.mono (by omega), hbt.2.2.2.mono (by omega)⟩
    refine ds_cons (ds_set 5 (de_lst (da_cons (de_sub (de_call G__law_draw (hr.mono (by decide)) T.g__law_draw T.k__law_draw xt (da_cons (de_name 0 (da_cons (de_int (da_nil ⟨_, _, rfl, U, uOk, fun r4 M4 h4 l4 K4 U4 => (de_int ⟨_, _, rfl, rfl, (da_cons (de_mul (de_call G__law_draw (hr.mono (by decide)) T.g__law_draw T.k__law_draw xt (da_cons (de_name 0 (da_cons (de_powN 1000000000 (da_nil ⟨_, _, rfl, U4, uOk, fun r3 M3 h3 l3 K3 U3 => (de_powN 1000000000 ⟨_, _, rfl, rfl, mulOkR (by decide) (by decide), (da_cons (de_sub (de_int (de_call G__law_draw (hr.mono (by decide)) T.g__law_draw T.k__law_draw xt (da_cons (de_name 0 (da_cons (de_powN 1000000000 (da_nil ⟨_, _, rfl, U3, uOk, fun r1 M1 h1 l1 K1 U1 => ⟨_, _, rfl, rfl, (da_nil ⟨szl, ?_⟩)⟩⟩)))))))))⟩)⟩))))))))⟩)⟩))))))))) nd)
    simp only [List.map_cons, List.map_nil, List.length_cons, List.length_nil, List.cons_append, List.nil_append, List.set_cons_zero, List.set_cons_succ, List.replicate_succ, List.replicate_zero, Nat.reduceSub, Nat.reduceAdd, List.reduceReplicate]
    have hsh : ∀ x ∈ [r4 - 10, r3 * 1000000000, 0 - r1], FS.Bt 70 x := fun x hx => by
      rcases List.mem_cons.mp hx with rfl | hx
      · exact (FS.Bt.of (k := 60) (by omega) (by omega)).mono (by decide)
      rcases List.mem_cons.mp hx with rfl | hx
      · exact (FS.Bt.of (k := 60) (by omega) (by omega)).mono (by decide)
      rcases List.mem_cons.mp hx with rfl | hx
      · exact (FS.Bt.of (k := 60) (by omega) (by omega)).mono (by decide)
      cases hx
    refine ds_one (ds_ret (de_catT (de_name 1 (de_tup (da_cons (de_ixLI (de_name 5 (de_call G__law_draw (hr.mono (by decide)) T.g__law_draw T.k__law_draw xt (da_cons (de_name 0 (da_cons (de_int (da_nil ⟨_, _, rfl, U1, uOk, fun r7 M7 h7 l7 K7 U7 => ⟨[_, _, _], _, rfl, rfl, h7, l7, (da_cons (de_ixLI (de_name 5 (de_call G__law_draw (hr.mono (by decide)) T.g__law_draw T.k__law_draw xt (da_cons (de_name 0 (da_cons (de_int (da_nil ⟨_, _, rfl, U7, uOk, fun r8 M8 h8 l8 K8 U8 => ⟨[_, _, _], _, rfl, rfl, h8, l8, (da_nil ⟨szl, ⟨[_, _, _, _], [_, _], rfl, rfl, szl, (by simp), ?_⟩⟩)⟩⟩)))))))))⟩⟩)))))))))))))
    exact hp ⟨a, b, c, d, _, _⟩ _ hok ⟨bt8.1, bt8.2.1, bt8.2.2.1, bt8.2.2.2, getD_all hsh h7 l7, getD_all hsh h8 l8⟩ ((((((KK.trans K4).trans K3).trans K1).trans K7).trans K8)) U8
end
section
variable {P : Program} {w : World} {K : PySem.W.Frag} {mg : Str → Option Value} {base : Heap}
theorem ok_GridMap_apply (T : Ty fc fn K mg) : FnD P w K mg base 5 (He.ma K (He.ga K "GridMap") "apply") (spGApp (He.ga K "GridMap")) := by
  obtain ⟨fd, F⟩ := T.f_GridMap_apply
  have nd := sc_GridMap_apply.nd
  have G_check_point := ok_check_point (P := P) (w := w) (base := base) T
  have G_GridMap_image := ok_GridMap_image (P := P) (w := w) (base := base) T
  refine fnD_all (fnD_ofD (k := 4) F sc_GridMap_apply (fun _ _ _ _ ⟨_, _, _, e, _⟩ => by rw [e]; rfl) ?_) (F.bindsN fun _ _ _ _ _ _ us hl => match us, hl with | [_, _], _ => rfl)
  rintro cdv A outer s H E Z _ M post xp hr ⟨m, x, y, rfl, hb, hp⟩ hZ xt ho
  refine ds_cons (ds_expr (de_call G_check_point (hr.mono (by decide)) T.g_check_point T.k_check_point xt (da_cons (de_name 1 (da_nil ⟨_, rfl, namedV_pt, ?_⟩)))))
  refine (show if true = true then _ else _ from ifT ?_)
  refine ds_one (ds_ret (de_meth T.cls_GridMap T.m_GridMap_image G_GridMap_image (hr.mono (by decide)) xt (de_name 0 ⟨_, _, .inl rfl, rfl, (da_cons (de_name 1 (da_nil ⟨_, _, _, rfl, hb, ?_⟩)))⟩)))
  exact hp
theorem ok_GridMap_power (T : Ty fc fn K mg) : FnD P w K mg base 7 (He.ma K (He.ga K "GridMap") "power") (fun ds M post xp => spGPow (He.ga K "GridMap") ds M post xp ∨ spGPowX (He.ga K "GridMap") (He.ga K "InvalidInteger") ds M post xp) := by
  obtain ⟨fd, F⟩ := T.f_GridMap_power
  have nd := sc_GridMap_power.nd
  have G_check_integer := ok_check_integer (P := P) (w := w) (base := base) T
  have G_GridMap_inverse := ok_GridMap_inverse (P := P) (w := w) (base := base) T
  have G_GridMap_identity := ok_GridMap_identity (P := P) (w := w) (base := base) T
  have G_GridMap_followed_by := ok_GridMap_followed_by (P := P) (w := w) (base := base) T
  refine fnD_all (fnD_ofD (k := 6) F sc_GridMap_power (fun _ _ _ _ h => by rcases h with ⟨_, _, e, _⟩ | ⟨_, _, _, e, _⟩ <;> rw [e] <;> rfl) ?_) (F.bindsN fun _ _ _ _ _ _ us hl => match us, hl with | [_, _], _ => rfl)
  rintro cdv A outer s H E Z _ M post xp hr (⟨m, e, rfl, ⟨om, bm, bi, hb⟩, hp⟩ | ⟨m, d, n, rfl, hn, hi, hp⟩) hZ xt ho
  · have go : ∀ g, g = m.sg e → DS (bodyX P w K mg base N_GridMap_power "GridMap.power" (defScope s_GridMap_power) (He.ma K (He.ga K "GridMap") "power") cdv A outer s H E) Z ((defBody s_GridMap_power).drop 2) [some (gmD (He.ga K "GridMap") m), some (.int e), some (gmD (He.ga K "GridMap") g), none, none] M { nx := fun _ M' => post .non M', rt := post } := by
      rintro g rfl
      refine ds_cons (ds_set 3 (de_abs T.n_abs (da_cons (de_name 1 (da_nil ⟨_, rfl, ?_⟩)))) nd)
      refine ds_cons (ds_set 4 (de_cmeth0 T.c_GridMap_identity.1 T.c_GridMap_identity.2 G_GridMap_identity (hr.mono (by decide)) (de_glob T.g_GridMap ⟨rfl, ⟨rfl, ?_⟩⟩)) nd)
      simp only [List.map_cons, List.map_nil, List.length_cons, List.length_nil, List.cons_append, List.nil_append, List.set_cons_zero, List.set_cons_succ, List.replicate_succ, List.replicate_zero, Nat.reduceSub, Nat.reduceAdd, List.reduceReplicate]
      refine ds_cons (ds_while ho (fun n δ M' => M' = M ∧ ∃ j p : Nat, j + p * n = e.natAbs ∧ (0 < n → p ≤ e.natAbs) ∧ δ = [some (gmD (He.ga K "GridMap") m), some (.int e), some (gmD (He.ga K "GridMap") ((m.sg e).np p)), some (.int (n : Nat)), some (gmD (He.ga K "GridMap") ((m.sg e).np j))]) e.natAbs ⟨rfl, 0, 1, by omega, fun _ => by omega, by rw [Six.np_one]; rfl⟩ ?_)
      · rintro n δ M' ⟨rfl, j, p, hj, hpn, rfl⟩
        have og := Six.sg_ok om e
        refine (dt_truth (de_name 3 ⟨_, rfl, ?_⟩))
        refine iteZ (fun q => ?_) (fun q => ?_)
        · have hn : 0 < n := by omega
          have hp1 := hpn hn
          have hpl : p * (n / 2) * 2 ≤ p * n := by
            rw [Nat.mul_assoc]
            exact Nat.mul_le_mul_left p (by omega)
          have half : n / 2 < n := by omega
          have e2 : ((m.sg e).np p).then ((m.sg e).np p) = (m.sg e).np (p + p) := (Six.np_add _ _ _).symm
          have b1 : ((m.sg e).np p).Bt kB := hb p (by omega)
          have b2 : (((m.sg e).np p).then ((m.sg e).np p)).Bt kB := by
            rw [e2]
            exact hb _ (by omega)
          have hx : p * n = (p + p) * (n / 2) + p * (n % 2) := by
            have h0 := Nat.div_add_mod n 2
            have h1 : p * n = p * (2 * (n / 2) + n % 2) := by rw [h0]
            rw [h1]
            generalize n / 2 = h
            generalize n % 2 = r
            grind
          refine ds_cons (ds_if (dt_eq (de_mod (de_name 3 (de_int ⟨_, _, rfl, rfl, by decide, (de_int ⟨_, _, rfl, rfl, ?_⟩)⟩)))))
          refine iteD (fun z => ?_) (fun z => ds_nil ?_)
          · have z2 : n % 2 = 1 := by omega
            rw [z2, Nat.mul_one] at hx
            refine ds_one (ds_set 4 (de_meth T.cls_GridMap T.m_GridMap_followed_by G_GridMap_followed_by (hr.mono (by decide)) xt (de_name 4 ⟨_, _, .inl rfl, rfl, (da_cons (de_name 2 (da_nil ⟨_, _, rfl, ?_, ?_⟩)))⟩)) nd)
            · exact ⟨Six.np_ok og j, Six.np_ok og p, hb j (by omega), b1, by rw [← Six.np_add]; exact hb _ (by omega)⟩
            rw [← Six.np_add]
            refine ds_cons (ds_set 2 (de_meth T.cls_GridMap T.m_GridMap_followed_by G_GridMap_followed_by (hr.mono (by decide)) xt (de_name 2 ⟨_, _, .inl rfl, rfl, (da_cons (de_name 2 (da_nil ⟨_, _, rfl, ?_, ?_⟩)))⟩)) nd)
            · exact ⟨Six.np_ok og p, Six.np_ok og p, b1, b1, b2⟩
            refine ds_one (ds_augD 3 ⟨_, rfl, (de_int ⟨_, rfl, divW 64 (by decide) (by decide) (by decide), ?_⟩)⟩ nd)
            refine ⟨n / 2, half, rfl, j + p, p + p, by omega, fun hh => ?_, ?_⟩
            · have := Nat.le_mul_of_pos_right (p + p) hh
              omega
            · rw [e2]
              rfl
          · have z2 : n % 2 = 0 := by omega
            rw [z2, Nat.mul_zero] at hx
            refine ds_cons (ds_set 2 (de_meth T.cls_GridMap T.m_GridMap_followed_by G_GridMap_followed_by (hr.mono (by decide)) xt (de_name 2 ⟨_, _, .inl rfl, rfl, (da_cons (de_name 2 (da_nil ⟨_, _, rfl, ?_, ?_⟩)))⟩)) nd)
            · exact ⟨Six.np_ok og p, Six.np_ok og p, b1, b1, b2⟩
            refine ds_one (ds_augD 3 ⟨_, rfl, (de_int ⟨_, rfl, divW 64 (by decide) (by decide) (by decide), ?_⟩)⟩ nd)
            refine ⟨n / 2, half, rfl, j, p + p, by omega, fun hh => ?_, ?_⟩
            · have := Nat.le_mul_of_pos_right (p + p) hh
              omega
            · rw [e2]
              rfl
        · refine ds_one (ds_ret (de_name 4 ?_))
          have : n = 0 := by omega
          subst this
          have ej : j = e.natAbs := by omega
          rw [ej]
          exact hp
    refine ds_cons (ds_expr (de_call G_check_integer (hr.mono (by decide)) T.g_check_integer T.k_check_integer xt (da_cons (de_name 1 (da_nil (ck1 ?_))))))
    refine ds_cons (ds_set 2 (de_ite (dt_ge (de_name 1 (de_int ⟨_, _, rfl, rfl, ?_⟩)))) nd)
    refine iteD (fun q => ?_) (fun q => ?_)
    · have q' : e ≥ 0 := q
      refine de_name 0 (go _ ?_)
      unfold Six.sg
      rw [if_pos (show 0 ≤ e from q')]
    · refine de_meth0 T.cls_GridMap T.m_GridMap_inverse G_GridMap_inverse (hr.mono (by decide)) xt (de_name 0 ⟨_, _, .inl rfl, rfl, ⟨_, rfl, ⟨om, bm, bi⟩, go _ ?_⟩⟩)
      unfold Six.sg
      rw [if_neg (show ¬ 0 ≤ e from q)]
  · refine ds_cons (ds_expr (de_call G_check_integer (hr.mono (by decide)) T.g_check_integer T.k_check_integer xt (da_cons (de_name 1 (da_nil (ckd1 hn (fun z => ?_) fun _ => hp))))))
    exfalso
    cases d <;> first | (cases z; done) | (cases hi; done)
theorem ok_GridMap_thenX (T : Ty fc fn K mg) : FnD P w K mg base 7 (He.ma K (He.ga K "GridMap") "then") (fun ds M post xp => (∃ d ds', ds = d :: ds' ∧ ds'.length ≤ sizeLine) ∧ spGThenX (He.ga K "GridMap") (He.ga K "InvalidMap") ds M post xp) := by
  obtain ⟨fd, F⟩ := T.f_GridMap_then
  have nd := sc_GridMap_then.nd
  have G_check_map := ok_check_map (P := P) (w := w) (base := base) T
  refine fnD_star1 (k := 6) F sc_GridMap_then (fun _ _ _ _ _ _ a => rfl) (fun _ _ _ _ _ _ a r rs => rfl) ?_
  rintro cdv A outer s H E Z d ds M post xp hr ⟨g, hs, b, n, rest, e, ⟨hn, hk⟩, hp⟩ hZ xt ho
  cases e
  refine ds_cons (ds_for ho (fun i δ M' => M' = M ∧ i ≤ hs.length ∧ ∃ o, δ = [some (gmD (He.ga K "GridMap") g), some (.tup (hs.map (gmD (He.ga K "GridMap")) ++ b :: rest)), o, none]) (di_tup (de_name 1 ⟨_, rfl, ⟨⟨rfl, Nat.zero_le _, _, rfl⟩, ?_, ?_⟩⟩)))
  · rintro i d δ M' hd ⟨rfl, hi, o, rfl⟩
    refine dg_name 2 ?_ nd
    rcases Nat.lt_or_ge i hs.length with hlt | hge
    · rw [List.getElem?_append_left (by simpa using hlt)] at hd
      obtain ⟨h, _, rfl⟩ := maps_get hd
      refine ds_one (ds_expr (de_call G_check_map (hr.mono (by decide)) T.g_check_map T.k_check_map xt (da_cons (de_name 2 (da_nil (.inl ⟨h, rfl, ?_⟩))))))
      exact ⟨rfl, hlt, _, rfl⟩
    · have ei : i = hs.length := Nat.le_antisymm hi hge
      rw [List.getElem?_append_right (by simpa using hge), ei, List.length_map, Nat.sub_self] at hd
      have ed : b = d := Option.some.inj hd
      subst ed
      exact ds_one (ds_expr (de_call G_check_map (hr.mono (by decide)) T.g_check_map T.k_check_map xt (da_cons (de_name 2 (da_nil (.inr ⟨_, n, rfl, hn, hk, hp⟩))))))
  · rintro δ M' ⟨rfl, hi, o, rfl⟩
    rw [List.length_append, List.length_map, List.length_cons] at hi
    omega
end
section
variable {P : Program} {w : World} {K : PySem.W.Frag} {mg : Str → Option Value} {base : Heap}
theorem ok__law_image (T : Ty fc fn K mg) : FnD P w K mg base 1 (He.ga K "_law_image") spLImg := by
  obtain ⟨fd, F⟩ := T.f__law_image
  have nd := sc__law_image.nd
  refine fnD_all (fnD_ofD (k := 0) F sc__law_image (fun _ _ _ _ ⟨_, _, _, e, _⟩ => by rw [e]; rfl) ?_) (F.bindsN fun _ _ _ _ _ _ us hl => match us, hl with | [_, _], _ => rfl)
  rintro cdv A outer s H E Z _ M post xp hr ⟨m, x, y, rfl, ⟨⟨b1, b2, b3, b4, b5, b6⟩, bx, by_⟩, hp⟩ hZ xt ho
  refine ds_cons (ds_asg (de_name 0 (dg_tup (dgs_cons (dg_name 2 (dgs_cons (dg_name 3 (dgs_cons (dg_name 4 (dgs_cons (dg_name 5 (dgs_cons (dg_name 6 (dgs_cons (dg_name 7 (dgs_nil ?_) nd)) nd)) nd)) nd)) nd)) nd)) rfl)))
  simp only [List.map_cons, List.map_nil, List.length_cons, List.length_nil, List.cons_append, List.nil_append, List.set_cons_zero, List.set_cons_succ, List.replicate_succ, List.replicate_zero, Nat.reduceSub, Nat.reduceAdd, List.reduceReplicate]
  refine ds_one (ds_ret (de_tup (da_cons (de_add (de_add (de_mul (de_name 2 (de_ixT (de_name 1 (de_int ⟨_, _, _, rfl, rfl, rfl, ⟨_, _, rfl, rfl, mulOk kB kB b1 bx kB2, (de_mul (de_name 3 (de_ixT (de_name 1 (de_int ⟨_, _, _, rfl, rfl, rfl, ⟨_, _, rfl, rfl, mulOk kB kB b2 by_ kB2, ⟨_, _, rfl, rfl, (de_name 6 ⟨_, _, rfl, rfl, (da_cons (de_add (de_add (de_mul (de_name 4 (de_ixT (de_name 1 (de_int ⟨_, _, _, rfl, rfl, rfl, ⟨_, _, rfl, rfl, mulOk kB kB b3 bx kB2, (de_mul (de_name 5 (de_ixT (de_name 1 (de_int ⟨_, _, _, rfl, rfl, rfl, ⟨_, _, rfl, rfl, mulOk kB kB b4 by_ kB2, ⟨_, _, rfl, rfl, (de_name 7 ⟨_, _, rfl, rfl, (da_nil ⟨szl, ?_⟩)⟩)⟩⟩⟩)))))⟩⟩))))))))⟩)⟩⟩⟩)))))⟩⟩))))))))))
  exact hp
theorem ok__law_rejected (T : Ty fc fn K mg) : FnD P w K mg base 8 (He.ga K "_law_rejected") (spLRej (He.ga K "GridMap")) := by
  obtain ⟨fd, F⟩ := T.f__law_rejected
  have nd := sc__law_rejected.nd
  have G_GridMap_then := ok_GridMap_thenX (P := P) (w := w) (base := base) T
  have G_GridMap_power := ok_GridMap_power (P := P) (w := w) (base := base) T
  refine fnD_all (fnD_ofD (k := 7) F sc__law_rejected (fun _ _ _ _ ⟨_, _, _, e, _⟩ => by rw [e]; rfl) ?_) (F.bindsN fun _ _ _ _ _ _ us hl => match us, hl with | [_, _], _ => rfl)
  rintro cdv A outer s H E Z _ M post xp hr ⟨g, d, n, rfl, ⟨⟨og, bg⟩, ⟨hn, hk⟩, hi⟩, hp⟩ hZ xt ho
  refine ds_cons (ds_set 2 (de_lstM (da_nil ⟨szl, fun p hM hz => ?_⟩)) nd)
  refine ds_cons (ds_for ho (fun i δ M' => M' = M.set p (.lst (threeD.take i)) ∧ ∃ o, δ = [some (gmD (He.ga K "GridMap") g), some d, some (.adr p), o]) (di_range1 T.n_range (de_int ⟨_, rfl, ⟨by decide, by decide⟩, ⟨⟨rfl, _, rfl⟩, ?_, ?_⟩⟩)))
  · rintro i x δ M' hd ⟨rfl, o, rfl⟩
    obtain ⟨h3, rfl⟩ := rangeD_inv hd
    refine dg_name 3 ?_ nd
    refine ds_one (ds_try xt (.cons ⟨rfl, by decide, .inl T.g_InvalidMap⟩ (.cons ⟨rfl, by decide, .inl T.g_InvalidInteger⟩ .nil)) fun Z1 pn1 xe1 xt1 ho1 => ?_)
    have put : ∀ {s : D}, threeD.take (i + 1) = threeD.take i ++ [s] → (M.set p (.lst (threeD.take i))).set p (.lst (threeD.take i ++ [s])) = M.set p (.lst (threeD.take (i + 1))) := fun e => by rw [Mem.set_set, e]
    refine ds_one (ds_if (dt_eq (de_name 3 (de_int ⟨_, _, rfl, rfl, ?_⟩))))
    refine iteD (fun q => ?_) (fun q => ?_)
    · have ei : i = 0 := by omega
      subst ei
      refine ds_one (ds_expr (de_meth T.cls_GridMap T.m_GridMap_then G_GridMap_then (hr.mono (by decide)) xt1 (de_name 0 ⟨_, _, .inl rfl, rfl, (da_cons (de_name 1 (da_nil ⟨⟨_, _, rfl, szl⟩, ⟨g, [], d, n, [], rfl, ⟨hn, hk⟩, true, T.exm x_InvalidMap_InvalidMap, fun _ a oe pn => ?_, fun z => by cases z⟩⟩)))⟩)))
      refine ds_one (ds_expr (de_append (de_name 2 ⟨_, rfl, ⟨_, Mem.set_same⟩, (de_str ⟨_, Mem.set_same, szl, ?_⟩)⟩)))
      exact ⟨put rfl, _, rfl⟩
    refine ds_one (ds_if (dt_eq (de_name 3 (de_int ⟨_, _, rfl, rfl, ?_⟩))))
    refine iteD (fun q => ?_) (fun q => ?_)
    · have ei : i = 1 := by omega
      subst ei
      refine ds_one (ds_expr (de_meth T.cls_GridMap T.m_GridMap_then G_GridMap_then (hr.mono (by decide)) xt1 (de_name 0 ⟨_, _, .inl rfl, rfl, (da_cons (de_name 0 (da_cons (de_name 1 (da_nil ⟨⟨_, _, rfl, szl⟩, ⟨g, [g], d, n, [], rfl, ⟨hn, hk⟩, true, T.exm x_InvalidMap_InvalidMap, fun _ a oe pn => ?_, fun z => by cases z⟩⟩)))))⟩)))
      refine ds_one (ds_expr (de_append (de_name 2 ⟨_, rfl, ⟨_, Mem.set_same⟩, (de_str ⟨_, Mem.set_same, szl, ?_⟩)⟩)))
      exact ⟨put rfl, _, rfl⟩
    have ei : i = 2 := by omega
    subst ei
    refine ds_one (ds_expr (de_meth T.cls_GridMap T.m_GridMap_power G_GridMap_power (hr.mono (by decide)) xt1 (de_name 0 ⟨_, _, .inl rfl, rfl, (da_cons (de_name 1 (da_nil (.inr ⟨g, d, n, rfl, hn, hi, false, T.exm x_InvalidInteger_InvalidMap, fun z => (by cases z), fun _ => ⟨true, T.exm x_InvalidInteger_InvalidInteger, fun _ a oe pn => ?_, fun z => by cases z⟩⟩))))⟩)))
    refine ds_one (ds_expr (de_append (de_name 2 ⟨_, rfl, ⟨_, Mem.set_same⟩, (de_str ⟨_, Mem.set_same, szl, ?_⟩)⟩)))
    exact ⟨put rfl, _, rfl⟩
  · rintro δ M' ⟨rfl, o, rfl⟩
    refine ds_frz 2 rfl Mem.set_same hz ?_
    simp only [List.map_cons, List.map_nil, List.length_cons, List.length_nil, List.cons_append, List.nil_append, List.set_cons_zero, List.set_cons_succ, List.replicate_succ, List.replicate_zero, Nat.reduceSub, Nat.reduceAdd, List.reduceReplicate]
    refine ds_one (ds_ret (de_eqD (hr.units) (de_name 2 (de_lst (da_cons (de_str (da_cons (de_str (da_cons (de_str (da_nil ⟨szl, (eqP_same (A := fun b => post (.bl b) _) (n := 1) ?_ rfl ?_)⟩)))))))))))
    · exact pd_lst fun x hx => by
        rcases List.mem_cons.mp hx with rfl | hx
        · exact pd_strA (by decide +kernel)
        rcases List.mem_cons.mp hx with rfl | hx
        · exact pd_strA (by decide +kernel)
        rcases List.mem_cons.mp hx with rfl | hx
        · exact pd_strA (by decide +kernel)
        cases hx
    · rw [Mem.del_set hM]
      exact hp
theorem ok__law_powers_right (T : Ty fc fn K mg) : FnD P w K mg base 8 (He.ga K "_law_powers_right") (spLPow (He.ga K "GridMap")) := by
  obtain ⟨fd, F⟩ := T.f__law_powers_right
  have nd := sc__law_powers_right.nd
  have G_GridMap_inverse := ok_GridMap_inverse (P := P) (w := w) (base := base) T
  have G_GridMap_power := ok_GridMap_power (P := P) (w := w) (base := base) T
  have G_GridMap_apply := ok_GridMap_apply (P := P) (w := w) (base := base) T
  have G_GridMap___eq__ := ok_GridMap___eq__ (P := P) (w := w) (base := base) T
  refine fnD_all (fnD_ofD (k := 7) F sc__law_powers_right (fun _ _ _ _ ⟨_, _, _, e, _⟩ => by rw [e]; rfl) ?_) (F.bindsN fun _ _ _ _ _ _ us hl => match us, hl with | [_, _], _ => rfl)
  rintro cdv A outer s H E Z _ M post xp hr ⟨m, x, y, rfl, ⟨⟨om, bm⟩, bx, by_⟩, hp⟩ hZ xt ho
  have oi : m.inv.Ok := om.inv
  have bi : m.inv.Bt 144 := Six.Bt.inv' om bm
  have bii : m.inv.inv.Bt 292 := Six.Bt.inv' oi bi
  have bn : ∀ n, n ≤ 12 → (m.np n).Bt 900 := fun n hn => (bm.np n).mono (by
    have := Nat.mul_le_mul_right 72 hn
    omega)
  have bni : ∀ n, n ≤ 12 → (m.inv.np n).Bt 2000 := fun n hn => (bi.np n).mono (by
    have := Nat.mul_le_mul_right 146 hn
    omega)
  have pw1 : ∀ e : Int, e.natAbs ≤ 6 → m.PwOk e := fun e he => ⟨om, bm.mono kBof, bi.mono kBof, fun n hn => by
    unfold Six.sg
    split
    · exact (bn n (by omega)).mono kBof
    · exact (bni n (by omega)).mono kBof⟩
  have pw2 : ∀ e : Int, 0 ≤ e → e.natAbs ≤ 6 → m.inv.PwOk e := fun e h0 he => ⟨oi, bi.mono kBof, bii.mono kBof, fun n hn => by
    unfold Six.sg
    rw [if_pos h0]
    exact (bni n (by omega)).mono kBof⟩
  have mp1 : ∀ i : Nat, m.mp (0 + (i : Int)) = m.np i := fun i => by
    unfold Six.mp Six.sg
    rw [if_pos (by omega), show (0 + (i : Int)).natAbs = i by omega]
  have mp2 : ∀ i : Nat, m.inv.mp (0 + (i : Int)) = m.inv.np i := fun i => by
    unfold Six.mp Six.sg
    rw [if_pos (by omega), show (0 + (i : Int)).natAbs = i by omega]
  have mp3 : ∀ i : Nat, m.mp (0 - (0 + (i : Int))) = m.inv.np i := fun i => by
    unfold Six.mp Six.sg
    rw [show (0 - (0 + (i : Int))).natAbs = i by omega]
    split
    · have : i = 0 := by omega
      subst this
      rfl
    · rfl
  have ib : ∀ {g : Six} {k : Nat}, g.Bt k → k ≤ 2000 → FS.Bt 2100 (g.im (x, y)).1 ∧ FS.Bt 2100 (g.im (x, y)).2 := fun h hk => ⟨(Six.im_bt (p := (x, y)) h bx by_).1.mono (by omega), (Six.im_bt (p := (x, y)) h bx by_).2.mono (by omega)⟩
  have Bx : FS.Bt kB x := bx.mono kBof
  have By : FS.Bt kB y := by_.mono kBof
  refine ds_cons (ds_set 2 (de_meth0 T.cls_GridMap T.m_GridMap_inverse G_GridMap_inverse (hr.mono (by decide)) xt (de_name 0 ⟨_, _, .inl rfl, rfl, ⟨_, rfl, ⟨om, bm.mono kBof, bi.mono kBof⟩, ?_⟩⟩)) nd)
  refine ds_cons (ds_par 3 4 (de_name 1 (de_name 1 ?_)) nd (hw := by rfl))
  simp only [List.map_cons, List.map_nil, List.length_cons, List.length_nil, List.cons_append, List.nil_append, List.set_cons_zero, List.set_cons_succ, List.replicate_succ, List.replicate_zero, Nat.reduceSub, Nat.reduceAdd, List.reduceReplicate]
  have h00 : [some (gmD (He.ga K "GridMap") m), some (pt x y), some (gmD (He.ga K "GridMap") m.inv), some (pt x y), some (pt x y), none] = [some (gmD (He.ga K "GridMap") m), some (pt x y), some (gmD (He.ga K "GridMap") m.inv), some (ptD ((m.np (min 0 5)).im (x, y))), some (ptD ((m.inv.np (min 0 5)).im (x, y))), none] := by
    rw [show m.np (min 0 5) = Six.one from rfl, show m.inv.np (min 0 5) = Six.one from rfl, Six.im_one]
  refine ds_cons (ds_for ho (fun i δ M' => M' = M ∧ ∃ o, δ = [some (gmD (He.ga K "GridMap") m), some (pt x y), some (gmD (He.ga K "GridMap") m.inv), some (ptD ((m.np (min i 5)).im (x, y))), some (ptD ((m.inv.np (min i 5)).im (x, y))), o]) (di_range1 T.n_range (de_int ⟨_, rfl, ⟨by decide, by decide⟩, ⟨⟨rfl, none, h00⟩, ?_, ?_⟩⟩)))
  · rintro i d δ M' hd ⟨rfl, o, rfl⟩
    obtain ⟨hi, rfl⟩ := rangeD_inv hd
    have hi6 : i < 6 := hi
    rw [show min i 5 = i by omega]
    have c1 := ib (bn i (by omega)) (by omega)
    have c2 := ib (bni i (by omega)) (by omega)
    refine dg_name 5 ?_ nd
    refine ds_cons (ds_if (DW.dt (dw_or (dt_neD (hr.units) (de_meth T.cls_GridMap T.m_GridMap_apply G_GridMap_apply (hr.mono (by decide)) xt (de_meth T.cls_GridMap T.m_GridMap_power G_GridMap_power (hr.mono (by decide)) xt (de_name 0 ⟨_, _, .inl rfl, rfl, (da_cons (de_name 5 (da_nil (.inl ⟨_, _, rfl, pw1 _ (by omega), ⟨_, _, .inl rfl, rfl, (da_cons (de_name 1 (da_nil ⟨_, _, _, rfl, ⟨by rw [mp1]; exact (bn i (by omega)).mono kBof, Bx, By⟩, (de_name 3 (nePtE (show (m.mp (0 + (i : Int))).im (x, y) = (m.np i).im (x, y) by rw [mp1]) ?_))⟩)))⟩⟩))))⟩)))))))
    refine (dw_or1 (dt_neD (hr.units) (de_meth T.cls_GridMap T.m_GridMap_apply G_GridMap_apply (hr.mono (by decide)) xt (de_meth T.cls_GridMap T.m_GridMap_power G_GridMap_power (hr.mono (by decide)) xt (de_name 2 ⟨_, _, .inl rfl, rfl, (da_cons (de_name 5 (da_nil (.inl ⟨_, _, rfl, pw2 _ (by omega) (by omega), ⟨_, _, .inl rfl, rfl, (da_cons (de_name 1 (da_nil ⟨_, _, _, rfl, ⟨by rw [mp2]; exact (bni i (by omega)).mono kBof, Bx, By⟩, (de_name 4 (nePtE (show (m.inv.mp (0 + (i : Int))).im (x, y) = (m.inv.np i).im (x, y) by rw [mp2]) (ds_nil ?_)))⟩)))⟩⟩))))⟩)))))
    refine ds_cons (ds_if (dt_neO T.eqc_GridMap G_GridMap___eq__ (hr.mono (by decide)) (de_meth T.cls_GridMap T.m_GridMap_power G_GridMap_power (hr.mono (by decide)) xt (de_name 0 ⟨_, _, .inl rfl, rfl, (da_cons (de_sub (de_int (de_name 5 ⟨_, _, rfl, rfl, (da_nil (.inl ⟨_, _, rfl, pw1 _ (by omega), (de_meth T.cls_GridMap T.m_GridMap_power G_GridMap_power (hr.mono (by decide)) xt (de_name 2 ⟨_, _, .inl rfl, rfl, (da_cons (de_name 5 (da_nil (.inl ⟨_, _, rfl, pw2 _ (by omega) (by omega), ⟨⟨_, _, .inl rfl⟩, ⟨_, _, .inl rfl⟩, ⟨_, _, rfl, true, ⟨fun _ => (mp3 i).trans (mp2 i).symm, fun _ => rfl⟩, ⟨true, rfl, ifF (ds_nil ?_)⟩⟩⟩⟩))))⟩))⟩))⟩))))⟩))))
    refine ds_one (ds_if (dt_lt (de_name 5 (de_int ⟨_, _, rfl, rfl, ?_⟩))))
    refine iteD (fun q => ?_) (fun q => ds_nil ?_)
    · have h5 : i < 5 := by omega
      refine ds_one (ds_par 3 4 (de_meth T.cls_GridMap T.m_GridMap_apply G_GridMap_apply (hr.mono (by decide)) xt (de_name 0 ⟨_, _, .inl rfl, rfl, (da_cons (de_name 3 (da_nil ⟨_, _, _, rfl, ⟨bm.mono kBof, c1.1.mono kBof, c1.2.mono kBof⟩, (de_meth T.cls_GridMap T.m_GridMap_apply G_GridMap_apply (hr.mono (by decide)) xt (de_name 2 ⟨_, _, .inl rfl, rfl, (da_cons (de_name 4 (da_nil ⟨_, _, _, rfl, ⟨bi.mono kBof, c2.1.mono kBof, c2.2.mono kBof⟩, ?_⟩)))⟩))⟩)))⟩)) nd (hw := by rfl))
      refine ⟨rfl, some (.int (0 + (i : Int))), ?_⟩
      rw [show min (i + 1) 5 = i + 1 by omega, show m.np (i + 1) = (m.np i).then m from rfl, show m.inv.np (i + 1) = (m.inv.np i).then m.inv from rfl, Six.im_then, Six.im_then]
      rfl
    · have h5 : i = 5 := by omega
      subst h5
      exact ⟨rfl, _, rfl⟩
  · rintro δ M' ⟨rfl, o, rfl⟩
    refine ds_one (ds_ret (de_bl ?_))
    exact hp
end
theorem Six.fold_bt {k j : Nat} : ∀ {hs : List Six} {g : Six}, g.Bt k → (∀ h ∈ hs, h.Bt j) → (g.fold hs).Bt (k + hs.length * (j + 2))
  | [], g, b, _ => b.mono (by omega)
  | h :: hs, g, b, q => (Six.fold_bt (hs := hs) (b.then (q h List.mem_cons_self)) fun x hx => q x (List.mem_cons_of_mem _ hx)).mono (by
    have : (h :: hs).length * (j + 2) = hs.length * (j + 2) + (j + 2) := Nat.succ_mul _ _
    omega)
theorem thenOk {g : Six} {hs : List Six} (og : g.Ok) (bg : g.Bt 3000) (q : ∀ h ∈ hs, h.Ok ∧ h.Bt 3000) (hl : hs.length ≤ 5) : g.Ok ∧ (∀ h ∈ hs, h.Ok ∧ h.Bt kB) ∧ ∀ i, (g.fold (hs.take i)).Bt kB :=
  ⟨og, fun h hh => ⟨(q h hh).1, (q h hh).2.mono kBof⟩, fun i => (Six.fold_bt (hs := hs.take i) bg fun x hx => (q x (List.mem_of_mem_take hx)).2).mono (kBof (by
    have h1 : (hs.take i).length ≤ 5 := Nat.le_trans (by rw [List.length_take]; exact Nat.min_le_right _ _) hl
    have := Nat.mul_le_mul_right (3000 + 2) h1
    omega))⟩
theorem inv_thenE {g h : Six} (og : g.Ok) (oh : h.Ok) : (g.then h).inv = h.inv.then g.inv := by
  have e1 : (g.then h).inv.then (g.then h) = Six.one := Six.inv_then (og.then oh)
  have e2 : (g.then h).then (h.inv.then g.inv) = Six.one := by
    rw [Six.assoc, ← Six.assoc h, Six.then_inv oh, Six.one_then, Six.then_inv og]
  calc (g.then h).inv = (g.then h).inv.then Six.one := (Six.then_one _).symm
    _ = (g.then h).inv.then ((g.then h).then (h.inv.then g.inv)) := by rw [e2]
    _ = h.inv.then g.inv := by rw [← Six.assoc, e1, Six.one_then]
def gOf (C : Addr) : D → D
  | .tup [.int a, .int b, .int c, .int d, .int e, .int f] => gmD C ⟨a, b, c, d, e, f⟩
  | d => d
theorem shear_np (k : Int) : ∀ n : Nat, (⟨1, k, 0, 1, 3, 0⟩ : Six).np n = ⟨1, k * n, 0, 1, 3 * n, 0⟩
  | 0 => by simp [Six.np, Six.one]
  | n + 1 => by
    show ((⟨1, k, 0, 1, 3, 0⟩ : Six).np n).then ⟨1, k, 0, 1, 3, 0⟩ = _
    rw [shear_np k n]
    simp only [Six.then, Six.mk.injEq]
    refine ⟨?_, ?_, ?_, ?_, ?_, ?_⟩ <;> push_cast <;> grind
theorem sixBt {k : Nat} {a b c d e f : Int} (h1 : FS.Bt k a) (h2 : FS.Bt k b) (h3 : FS.Bt k c) (h4 : FS.Bt k d) (h5 : FS.Bt k e) (h6 : FS.Bt k f) : (⟨a, b, c, d, e, f⟩ : Six).Bt k := ⟨h1, h2, h3, h4, h5, h6⟩
abbrev quart : Six := ⟨0, 1, -1, 0, 0, 0⟩
theorem quart_np (n : Nat) : quart.np (n + 4) = quart.np n := by
  rw [Six.np_add, show quart.np 4 = Six.one from rfl, Six.then_one]
theorem quart_mod (n : Nat) : quart.np n = quart.np (n % 4) := by
  have h : ∀ j i, quart.np (i + 4 * j) = quart.np i := fun j => by
    induction j with
    | zero => intro i; rfl
    | succ j ih => intro i; rw [show i + 4 * (j + 1) = (i + 4 * j) + 4 by omega, quart_np, ih]
  have := h (n / 4) (n % 4)
  rw [show n % 4 + 4 * (n / 4) = n by omega] at this
  exact this
theorem quart_bt (n : Nat) : (quart.np n).Bt kB := by
  rw [quart_mod]
  have hn : n % 4 < 4 := Nat.mod_lt _ (by decide)
  generalize n % 4 = r at hn
  have q : ∀ i < 4, (quart.np i).Bt 10 := fun i hi => by
    match i, hi with
    | 0, _ => exact ⟨.of (by decide) (by decide), .of (by decide) (by decide), .of (by decide) (by decide), .of (by decide) (by decide), .of (by decide) (by decide), .of (by decide) (by decide)⟩
    | 1, _ => exact ⟨.of (by decide) (by decide), .of (by decide) (by decide), .of (by decide) (by decide), .of (by decide) (by decide), .of (by decide) (by decide), .of (by decide) (by decide)⟩
    | 2, _ => exact ⟨.of (by decide) (by decide), .of (by decide) (by decide), .of (by decide) (by decide), .of (by decide) (by decide), .of (by decide) (by decide), .of (by decide) (by decide)⟩
    | 3, _ => exact ⟨.of (by decide) (by decide), .of (by decide) (by decide), .of (by decide) (by decide), .of (by decide) (by decide), .of (by decide) (by decide), .of (by decide) (by decide)⟩
  exact (q r hn).mono kBof
section
variable {P : Program} {w : World} {K : PySem.W.Frag} {mg : Str → Option Value} {base : Heap}
theorem ok_law (T : Ty fc fn K mg) {fd : FuncData} (F : FunD K "law" "law" (defArgs s_law) (defBody s_law) (defScope s_law) [] [] (He.ga K "law") fd) : FnOk P w K mg base (L2.CX P w) 10 (He.ga K "law") fd ["script"] (spOf K (lawS 63)) := by
  have nd := sc_law.nd
  have G__law_draws := ok__law_draws (P := P) (w := w) (base := base) T
  have G__law_draw := ok__law_draw (P := P) (w := w) (base := base) T
  have G__law_numbers := ok__law_numbers (P := P) (w := w) (base := base) T
  have G__law_grid := ok__law_grid (P := P) (w := w) (base := base) T
  have G__law_image := ok__law_image (P := P) (w := w) (base := base) T
  have G__law_rejected := ok__law_rejected (P := P) (w := w) (base := base) T
  have G__law_powers_right := ok__law_powers_right (P := P) (w := w) (base := base) T
  have G_GridMap_then := ok_GridMap_then (P := P) (w := w) (base := base) T
  have G_GridMap_inverse := ok_GridMap_inverse (P := P) (w := w) (base := base) T
  have G_GridMap_identity := ok_GridMap_identity (P := P) (w := w) (base := base) T
  have G_GridMap_power := ok_GridMap_power (P := P) (w := w) (base := base) T
  have G_GridMap_apply := ok_GridMap_apply (P := P) (w := w) (base := base) T
  have G_GridMap_numbers := ok_GridMap_numbers (P := P) (w := w) (base := base) T
  have G_GridMap___eq__ := ok_GridMap___eq__ (P := P) (w := w) (base := base) T
  have G_GridMap___init__ := ok_GridMap___init__ (P := P) (w := w) (base := base) T
  have G_GridMap___init__5 := ok5_GridMap___init__ (P := P) (w := w) (base := base) T
  refine fnD_ofD (k := 9) F sc_law (fun _ _ _ _ ⟨_, _, e, _⟩ => by rw [e]; rfl) ?_
  rintro cdv A outer s0 H E Z _ M post xp hr ⟨ns, hlen, rfl, hp⟩ hZ xt ho
  refine ds_cons (ds_for ho (fun i δ M => ∃ o1 o2 o3 o4 o5 o6 o7 o8 o9 o10 o11 o12 o13 o14 o15, δ = [some (.frl (ns.map .int)), o1, o2, o3, o4, o5, o6, o7, o8, o9, o10, o11, o12, o13, o14, o15]) (di_range1 T.n_range (de_max2 T.n_max (da_cons (de_int (da_cons (de_min2 T.n_min (da_cons (de_int (da_cons (de_len T.n_len (da_cons (de_name 0 (da_nil ⟨_, _, rfl, rfl, (da_nil ⟨_, _, rfl, (da_nil ⟨_, _, rfl, ⟨_, rfl, ?_, ⟨⟨_, _, _, _, _, _, _, _, _, _, _, _, _, _, _, rfl⟩, ?_, ?_⟩⟩⟩)⟩)⟩))))))))))))))
  · rw [List.length_map]
    omega
  · rintro i d δ M hd ⟨o1, o2, o3, o4, o5, o6, o7, o8, o9, o10, o11, o12, o13, o14, o15, rfl⟩
    obtain ⟨_, rfl⟩ := rangeD_inv hd
    refine dg_name 1 ?_ nd
    refine ds_cons (ds_set 2 (de_call G__law_draws (hr.mono (by decide)) T.g__law_draws T.k__law_draws xt (da_cons (de_name 0 (da_cons (de_name 1 (da_nil ⟨ns, _, rfl, ?_, fun p1 M1 N1 K1 U1 => ?_⟩)))))) nd)
    · show 0 ≤ (0 : Int) + (i : Nat)
      omega
    simp only [List.map_cons, List.map_nil, List.length_cons, List.length_nil, List.cons_append, List.nil_append, List.set_cons_zero, List.set_cons_succ, List.replicate_succ, List.replicate_zero, Nat.reduceSub, Nat.reduceAdd, List.reduceReplicate]
    refine ds_cons (ds_setLc [("turn", 15)] (.nm 15) 3 (di_range1 T.n_range (de_int ⟨_, rfl, ⟨by decide, by decide⟩, ⟨fun i acc M' => Dr M' p1 ∧ ∃ ms : List Six, acc = ms.map Six.tup ∧ ms.length = i ∧ ∀ m ∈ ms, m.Ok ∧ m.Bt 70, ⟨U1, [], rfl, rfl, by simp⟩, ?_, szl, ?_⟩⟩)) nd (blkOk_by (N := N_law) (sc := defScope s_law) (by decide +kernel)) (fun _ _ _ _ _ => pg_name (i := 15) nd rfl (Or.inl rfl)) (sw_true rfl rfl rfl (by decide +kernel)))
    · rintro j acc d M' hd ⟨U, ms, rfl, hl, hall⟩
      obtain ⟨_, rfl⟩ := rangeD_inv hd
      refine ⟨_, rfl, fun Z1 s1 H1 C1 cl1 fp1 => dts_nil ?_⟩
      rw [if_pos rfl]
      intro s2 H2 C2 cl2 fp2
      refine de_call G__law_numbers (hr.mono (by decide)) T.g__law_numbers T.k__law_numbers XT.none (da_cons (de_name 2 (da_nil ⟨_, rfl, U, fun m M3 om bm K3 U3 => ?_⟩)))
      refine ⟨U3, ms ++ [m], by simp, by simp [hl], fun x hx => ?_⟩
      rcases List.mem_append.mp hx with hx | hx
      · exact hall x hx
      · rw [List.mem_singleton.mp hx]
        exact ⟨om, bm⟩
    rintro acc M2 ⟨U2, ms, rfl, hl, hall⟩
    have hl4 : ms.length = 4 := hl
    obtain ⟨m1, m2, m3, m4, rfl⟩ : ∃ m1 m2 m3 m4, ms = [m1, m2, m3, m4] := by
      match ms, hl4 with
      | [a, b, c, d], _ => exact ⟨a, b, c, d, rfl⟩
    obtain ⟨k1, b1⟩ := hall m1 (by simp)
    obtain ⟨k2, b2⟩ := hall m2 (by simp)
    obtain ⟨k3, b3⟩ := hall m3 (by simp)
    obtain ⟨k4, b4⟩ := hall m4 (by simp)
    simp only [List.map_cons, List.map_nil, List.length_cons, List.length_nil, List.cons_append, List.nil_append, List.set_cons_zero, List.set_cons_succ, List.replicate_succ, List.replicate_zero, Nat.reduceSub, Nat.reduceAdd, List.reduceReplicate]
    have hc : ∀ (j : Nat) (e : D), [m1.tup, m2.tup, m3.tup, m4.tup][j]? = some e → ∃ m : Six, e = m.tup ∧ m.Ok ∧ m.Bt 70 := fun j e he => by
      have he := List.mem_of_getElem? he
      simp only [List.mem_cons, List.not_mem_nil, or_false] at he
      rcases he with rfl | rfl | rfl | rfl
      · exact ⟨m1, rfl, k1, b1⟩
      · exact ⟨m2, rfl, k2, b2⟩
      · exact ⟨m3, rfl, k3, b3⟩
      · exact ⟨m4, rfl, k4, b4⟩
    refine ds_cons (ds_setLc [("numbers", 4)] (.nm 4) 5 (di_list (de_name 3 ⟨_, rfl, (lcMap (gOf (He.ga K "GridMap")) ?_ szl ?_)⟩)) nd (blkOk_by (N := N_law) (sc := defScope s_law) (by decide +kernel)) (fun _ _ _ _ _ => pg_name (i := 4) nd rfl (Or.inl rfl)) (sw_true rfl rfl rfl (by decide +kernel)))
    · intro j e he
      obtain ⟨m, rfl, om, bm⟩ := hc j e he
      exact ⟨_, rfl, fun Z1 s1 H1 C1 cl1 fp1 => (de_call G__law_grid (hr.mono (by decide)) T.g__law_grid T.k__law_grid XT.none (da_cons (de_name 4 (da_nil ⟨_, rfl, ⟨om, bm.mono kBof⟩, ⟨rfl, rfl⟩⟩))))⟩
    simp only [List.map_cons, List.map_nil, List.length_cons, List.length_nil, List.cons_append, List.nil_append, List.set_cons_zero, List.set_cons_succ, List.replicate_succ, List.replicate_zero, Nat.reduceSub, Nat.reduceAdd, List.reduceReplicate]
    refine ds_cons (ds_set 6 (de_tup (da_cons (de_sub (de_call G__law_draw (hr.mono (by decide)) T.g__law_draw T.k__law_draw xt (da_cons (de_name 2 (da_cons (de_int (da_nil ⟨_, _, rfl, U2, uOk, fun px Ma xa xb Ka Ua => (de_int ⟨_, _, rfl, rfl, (da_cons (de_sub (de_call G__law_draw (hr.mono (by decide)) T.g__law_draw T.k__law_draw xt (da_cons (de_name 2 (da_cons (de_int (da_nil ⟨_, _, rfl, Ua, uOk, fun py Mb ya yb Kb Ub => (de_int ⟨_, _, rfl, rfl, (da_nil ⟨szl, ?_⟩)⟩)⟩))))))))⟩)⟩))))))))) nd)
    refine ds_cons (ds_set 7 (de_name 6 ?_) nd)
    simp only [List.map_cons, List.map_nil, List.length_cons, List.length_nil, List.cons_append, List.nil_append, List.set_cons_zero, List.set_cons_succ, List.replicate_succ, List.replicate_zero, Nat.reduceSub, Nat.reduceAdd, List.reduceReplicate]
    have Bx : FS.Bt 20 (px - 1000) := .of (by omega) (by omega)
    have By : FS.Bt 20 (py - 1000) := .of (by omega) (by omega)
    generalize px - 1000 = x at Bx ⊢
    generalize py - 1000 = y at By ⊢
    have fb : ∀ i, (Six.one.fold ([m1, m2, m3, m4].take i)).Bt 3000 := fun i => (Six.fold_bt (hs := [m1, m2, m3, m4].take i) one_bt1 fun h hh => by
      have hh := List.mem_of_mem_take hh
      exact (hall h hh).2).mono (by
        have h1 : ([m1, m2, m3, m4].take i).length ≤ 4 := by rw [List.length_take]; exact Nat.min_le_right _ _
        have := Nat.mul_le_mul_right (70 + 2) h1
        omega)
    have ib : ∀ {g : Six}, g.Bt 3000 → FS.Bt 3100 (g.im (x, y)).1 ∧ FS.Bt 3100 (g.im (x, y)).2 := fun h => ⟨(Six.im_bt (p := (x, y)) h Bx By).1.mono (by omega), (Six.im_bt (p := (x, y)) h Bx By).2.mono (by omega)⟩
    refine ds_cons (ds_for ho (fun j δ M' => M' = Mb ∧ ∃ o4, δ = [some (.frl (ns.map .int)), some (.int (0 + (i : Nat))), some (.adr p1), some (.lst [m1.tup, m2.tup, m3.tup, m4.tup]), o4, some (.lst [gmD (He.ga K "GridMap") m1, gmD (He.ga K "GridMap") m2, gmD (He.ga K "GridMap") m3, gmD (He.ga K "GridMap") m4]), some (pt x y), some (ptD ((Six.one.fold ([m1, m2, m3, m4].take j)).im (x, y))), o8, o9, o10, o11, o12, o13, o14, o15]) (di_list (de_name 3 ⟨_, rfl, ⟨⟨rfl, o4, ?_⟩, ?_, ?_⟩⟩)))
    · rw [show Six.one.fold ([m1, m2, m3, m4].take 0) = Six.one from rfl, Six.im_one]
      rfl
    · rintro j d δ M' hd ⟨rfl, o4, rfl⟩
      have hj : j < 4 := (List.getElem?_eq_some_iff.mp hd).1
      obtain ⟨m, hm, rfl, bm⟩ : ∃ m, [m1, m2, m3, m4][j]? = some m ∧ d = m.tup ∧ m.Bt 70 := by
        match j, hj, hd with
        | 0, _, h => cases h; exact ⟨m1, rfl, rfl, b1⟩
        | 1, _, h => cases h; exact ⟨m2, rfl, rfl, b2⟩
        | 2, _, h => cases h; exact ⟨m3, rfl, rfl, b3⟩
        | 3, _, h => cases h; exact ⟨m4, rfl, rfl, b4⟩
      refine dg_name 4 ?_ nd
      have c := ib (fb j)
      refine ds_one (ds_set 7 (de_call G__law_image (hr.mono (by decide)) T.g__law_image T.k__law_image xt (da_cons (de_name 4 (da_cons (de_name 7 (da_nil ⟨_, _, _, rfl, ⟨bm.mono kBof, c.1.mono kBof, c.2.mono kBof⟩, ?_⟩)))))) nd)
      refine ⟨rfl, some m.tup, ?_⟩
      rw [Six.fold_take hm, Six.im_then]
      rfl
    rintro δ M' ⟨rfl, o4, rfl⟩
    rw [show Six.one.fold ([m1, m2, m3, m4].take [m1.tup, m2.tup, m3.tup, m4.tup].length) = m1.fold [m2, m3, m4] from by
      show Six.one.fold [m1, m2, m3, m4] = _
      show (Six.one.then m1).fold [m2, m3, m4] = _
      rw [Six.one_then]]
    refine ds_cons (ds_asg (de_name 5 (dg_lst (dgs_cons (dg_name 8 (dgs_cons (dg_name 9 (dgs_cons (dg_name 10 (dgs_cons (dg_name 11 (dgs_nil ?_) nd)) nd)) nd)) nd)) rfl)))
    simp only [List.map_cons, List.map_nil, List.length_cons, List.length_nil, List.cons_append, List.nil_append, List.set_cons_zero, List.set_cons_succ, List.replicate_succ, List.replicate_zero, Nat.reduceSub, Nat.reduceAdd, List.reduceReplicate]
    have q3 : ∀ {h : Six}, h.Ok → h.Bt 70 → h.Ok ∧ h.Bt 3000 := fun a b => ⟨a, b.mono (by omega)⟩
    have c4 : (m1.fold [m2, m3, m4]).Bt 3000 := by
      have := fb 4
      rw [show Six.one.fold ([m1, m2, m3, m4].take 4) = (Six.one.then m1).fold [m2, m3, m4] from rfl, Six.one_then] at this
      exact this
    have cc := ib c4
    have up : ∀ {g : Six} {k : Nat}, g.Bt k → k ≤ 3000 → g.Bt 3000 := fun b h => b.mono h
    have t0 : ∀ {h : Six}, h ∈ ([] : List Six) → h.Ok ∧ h.Bt 3000 := fun hh => by cases hh
    have t1 : ∀ {g : Six}, g.Ok → g.Bt 3000 → ∀ h ∈ [g], h.Ok ∧ h.Bt 3000 := fun a b h hh => by
      rw [List.mem_singleton.mp hh]
      exact ⟨a, b⟩
    have z1 : m1.Bt 3000 := b1.mono (by omega)
    have z2 : m2.Bt 3000 := b2.mono (by omega)
    have z3 : m3.Bt 3000 := b3.mono (by omega)
    have z4 : m4.Bt 3000 := b4.mono (by omega)
    have k12 := k1.then k2
    have b12 : (m1.then m2).Bt 142 := b1.then b2
    have z12 : (m1.then m2).Bt 3000 := b12.mono (by omega)
    have k123 := k12.then k3
    have z123 : ((m1.then m2).then m3).Bt 3000 := (b12.then b3).mono (by omega)
    have bi1 : m1.inv.Bt 144 := Six.Bt.inv' k1 b1
    have bi2 : m2.inv.Bt 144 := Six.Bt.inv' k2 b2
    have bi12 : (m1.then m2).inv.Bt 288 := Six.Bt.inv' k12 b12
    have v1 : m1.Ok ∧ m1.Bt kB ∧ m1.inv.Bt kB := ⟨k1, b1.mono kBof, bi1.mono kBof⟩
    have v2 : m2.Ok ∧ m2.Bt kB ∧ m2.inv.Bt kB := ⟨k2, b2.mono kBof, bi2.mono kBof⟩
    have v12 : (m1.then m2).Ok ∧ (m1.then m2).Bt kB ∧ (m1.then m2).inv.Bt kB := ⟨k12, b12.mono kBof, bi12.mono kBof⟩
    have t23 : ∀ h ∈ [m2, m3], h.Ok ∧ h.Bt 3000 := fun h hh => by
      rcases List.mem_cons.mp hh with rfl | hh
      · exact ⟨k2, z2⟩
      · exact t1 k3 z3 h hh
    have t34 : ∀ h ∈ [m3, m4], h.Ok ∧ h.Bt 3000 := fun h hh => by
      rcases List.mem_cons.mp hh with rfl | hh
      · exact ⟨k3, z3⟩
      · exact t1 k4 z4 h hh
    refine ds_cons (ds_if (DW.dt (dw_or (dt_neD (hr.units) (de_meth T.cls_GridMap T.m_GridMap_apply G_GridMap_apply (hr.mono (by decide)) xt (de_meth T.cls_GridMap T.m_GridMap_then G_GridMap_then (hr.mono (by decide)) xt (de_name 8 ⟨_, _, .inl rfl, rfl, (da_cons (de_name 9 (da_cons (de_name 10 (da_cons (de_name 11 (da_nil ⟨⟨_, _, rfl, szl⟩, ⟨m1, [m2, m3, m4], rfl, thenOk k1 z1 (fun h hh => q3 (hall h (List.mem_cons_of_mem _ hh)).1 (hall h (List.mem_cons_of_mem _ hh)).2) (by simp), ⟨_, _, .inl rfl, rfl, (da_cons (de_name 6 (da_nil ⟨_, _, _, rfl, ⟨c4.mono kBof, Bx.mono kBof, By.mono kBof⟩, (de_name 7 (nePtE (show (m1.fold [m2, m3, m4]).im (x, y) = (m1.fold [m2, m3, m4]).im (x, y) from rfl) ?_))⟩)))⟩⟩⟩)))))))⟩)))))))
    refine (dw_or1 (dt_neO T.eqc_GridMap G_GridMap___eq__ (hr.mono (by decide)) (de_meth0 T.cls_GridMap T.m_GridMap_then G_GridMap_then (hr.mono (by decide)) xt (de_name 8 ⟨_, _, .inl rfl, rfl, ⟨⟨_, _, rfl, szl⟩, ⟨m1, [], rfl, thenOk k1 z1 (fun _ hh => t0 hh) (by simp), (de_name 8 ⟨⟨_, _, .inl rfl⟩, ⟨_, _, .inl rfl⟩, ⟨_, _, rfl, true, ⟨fun _ => rfl, fun _ => rfl⟩, ⟨true, rfl, ifF (ds_nil ?_)⟩⟩⟩)⟩⟩⟩))))
    refine ds_cons (ds_if (dt_neO T.eqc_GridMap G_GridMap___eq__ (hr.mono (by decide)) (de_meth T.cls_GridMap T.m_GridMap_then G_GridMap_then (hr.mono (by decide)) xt (de_meth T.cls_GridMap T.m_GridMap_then G_GridMap_then (hr.mono (by decide)) xt (de_name 8 ⟨_, _, .inl rfl, rfl, (da_cons (de_name 9 (da_nil ⟨⟨_, _, rfl, szl⟩, ⟨m1, [m2], rfl, thenOk k1 z1 (t1 k2 z2) (by simp), ⟨_, _, .inl rfl, rfl, (da_cons (de_name 10 (da_cons (de_name 11 (da_nil ⟨⟨_, _, rfl, szl⟩, ⟨(m1.then m2), [m3, m4], rfl, thenOk k12 z12 t34 (by simp), (de_meth T.cls_GridMap T.m_GridMap_then G_GridMap_then (hr.mono (by decide)) xt (de_meth T.cls_GridMap T.m_GridMap_then G_GridMap_then (hr.mono (by decide)) xt (de_name 8 ⟨_, _, .inl rfl, rfl, (da_cons (de_name 9 (da_cons (de_name 10 (da_nil ⟨⟨_, _, rfl, szl⟩, ⟨m1, [m2, m3], rfl, thenOk k1 z1 t23 (by simp), ⟨_, _, .inl rfl, rfl, (da_cons (de_name 11 (da_nil ⟨⟨_, _, rfl, szl⟩, ⟨((m1.then m2).then m3), [m4], rfl, thenOk k123 z123 (t1 k4 z4) (by simp), ⟨⟨_, _, .inl rfl⟩, ⟨_, _, .inl rfl⟩, ⟨_, _, rfl, true, ⟨fun _ => rfl, fun _ => rfl⟩, ⟨true, rfl, ifF (ds_nil ?_)⟩⟩⟩⟩⟩)))⟩⟩⟩)))))⟩)))⟩⟩)))))⟩⟩⟩)))⟩)))))
    refine ds_cons (ds_set 12 (de_cmeth0 T.c_GridMap_identity.1 T.c_GridMap_identity.2 G_GridMap_identity (hr.mono (by decide)) (de_glob T.g_GridMap ⟨rfl, ⟨rfl, ?_⟩⟩)) nd)
    simp only [List.map_cons, List.map_nil, List.length_cons, List.length_nil, List.cons_append, List.nil_append, List.set_cons_zero, List.set_cons_succ, List.replicate_succ, List.replicate_zero, Nat.reduceSub, Nat.reduceAdd, List.reduceReplicate]
    refine ds_cons (ds_if (DW.dt (dw_or (dt_neO T.eqc_GridMap G_GridMap___eq__ (hr.mono (by decide)) (de_meth T.cls_GridMap T.m_GridMap_then G_GridMap_then (hr.mono (by decide)) xt (de_name 8 ⟨_, _, .inl rfl, rfl, (da_cons (de_meth0 T.cls_GridMap T.m_GridMap_inverse G_GridMap_inverse (hr.mono (by decide)) xt (de_name 8 ⟨_, _, .inl rfl, rfl, ⟨_, rfl, v1, (da_nil ⟨⟨_, _, rfl, szl⟩, ⟨m1, [m1.inv], rfl, thenOk k1 z1 (t1 k1.inv (bi1.mono (by omega))) (by simp), (de_name 12 ⟨⟨_, _, .inl rfl⟩, ⟨_, _, .inl rfl⟩, ⟨_, _, rfl, true, ⟨fun _ => (show m1.fold [m1.inv] = Six.one from Six.then_inv k1), fun _ => rfl⟩, ⟨true, rfl, ifF ?_⟩⟩⟩)⟩⟩)⟩⟩)))⟩))))))
    refine (dw_or1 (dt_neO T.eqc_GridMap G_GridMap___eq__ (hr.mono (by decide)) (de_meth T.cls_GridMap T.m_GridMap_then G_GridMap_then (hr.mono (by decide)) xt (de_meth0 T.cls_GridMap T.m_GridMap_inverse G_GridMap_inverse (hr.mono (by decide)) xt (de_name 8 ⟨_, _, .inl rfl, rfl, ⟨_, rfl, v1, ⟨_, _, .inl rfl, rfl, (da_cons (de_name 8 (da_nil ⟨⟨_, _, rfl, szl⟩, ⟨m1.inv, [m1], rfl, thenOk k1.inv (bi1.mono (by omega)) (t1 k1 z1) (by simp), (de_name 12 ⟨⟨_, _, .inl rfl⟩, ⟨_, _, .inl rfl⟩, ⟨_, _, rfl, true, ⟨fun _ => (show m1.inv.fold [m1] = Six.one from Six.inv_then k1), fun _ => rfl⟩, ⟨true, rfl, ifF (ds_nil ?_)⟩⟩⟩)⟩⟩)))⟩⟩⟩)))))
    refine ds_cons (ds_if (dt_neO T.eqc_GridMap G_GridMap___eq__ (hr.mono (by decide)) (de_meth0 T.cls_GridMap T.m_GridMap_inverse G_GridMap_inverse (hr.mono (by decide)) xt (de_meth T.cls_GridMap T.m_GridMap_then G_GridMap_then (hr.mono (by decide)) xt (de_name 8 ⟨_, _, .inl rfl, rfl, (da_cons (de_name 9 (da_nil ⟨⟨_, _, rfl, szl⟩, ⟨m1, [m2], rfl, thenOk k1 z1 (t1 k2 z2) (by simp), ⟨_, _, .inl rfl, rfl, ⟨_, rfl, v12, (de_meth T.cls_GridMap T.m_GridMap_then G_GridMap_then (hr.mono (by decide)) xt (de_meth0 T.cls_GridMap T.m_GridMap_inverse G_GridMap_inverse (hr.mono (by decide)) xt (de_name 9 ⟨_, _, .inl rfl, rfl, ⟨_, rfl, v2, ⟨_, _, .inl rfl, rfl, (da_cons (de_meth0 T.cls_GridMap T.m_GridMap_inverse G_GridMap_inverse (hr.mono (by decide)) xt (de_name 8 ⟨_, _, .inl rfl, rfl, ⟨_, rfl, v1, (da_nil ⟨⟨_, _, rfl, szl⟩, ⟨m2.inv, [m1.inv], rfl, thenOk k2.inv (bi2.mono (by omega)) (t1 k1.inv (bi1.mono (by omega))) (by simp), ⟨⟨_, _, .inl rfl⟩, ⟨_, _, .inl rfl⟩, ⟨_, _, rfl, true, ⟨fun _ => (show (m1.then m2).inv = m2.inv.then m1.inv from inv_thenE k1 k2), fun _ => rfl⟩, ⟨true, rfl, ifF (ds_nil ?_)⟩⟩⟩⟩⟩)⟩⟩)))⟩⟩⟩)))⟩⟩⟩⟩)))⟩)))))
    have ok' : (⟨m1.a, m1.b, m1.c, m1.d, m1.e % 1000, m1.f % 1000⟩ : Six).Ok := k1
    have bt' : (⟨m1.a, m1.b, m1.c, m1.d, m1.e % 1000, m1.f % 1000⟩ : Six).Bt 70 := ⟨b1.1, b1.2.1, b1.2.2.1, b1.2.2.2.1, (show FS.Bt 70 (m1.e % 1000) from (FS.Bt.of (k := 10) (by omega) (by omega)).mono (by decide)), (show FS.Bt 70 (m1.f % 1000) from (FS.Bt.of (k := 10) (by omega) (by omega)).mono (by decide))⟩
    refine ds_cons (ds_set 13 (de_call G__law_grid (hr.mono (by decide)) T.g__law_grid T.k__law_grid xt (da_cons (de_catT (de_slT0 (l := []) (de_ixL (de_name 3 (de_int ⟨_, _, _, rfl, rfl, rfl, ⟨[_, _, _, _, _, _], rfl, (show ¬ HT.sIx 6 6 (some 4) = 6 by decide), ?_⟩⟩))))))) nd)
    refine de_tup (da_cons (de_mod (de_ixT (de_ixL (de_name 3 (de_int ⟨_, _, _, rfl, rfl, rfl, (de_int ⟨_, _, _, rfl, rfl, rfl, (de_int ⟨_, _, rfl, rfl, by decide, ?_⟩)⟩)⟩))))))
    refine da_cons (de_mod (de_ixT (de_ixL (de_name 3 (de_int ⟨_, _, _, rfl, rfl, rfl, (de_int ⟨_, _, _, rfl, rfl, rfl, (de_int ⟨_, _, rfl, rfl, by decide, ?_⟩)⟩)⟩)))))
    refine da_nil ⟨szl, [_, _, _, _], [_, _], rfl, rfl, szl, by simp, ?_⟩
    refine da_nil ⟨⟨m1.a, m1.b, m1.c, m1.d, m1.e % 1000, m1.f % 1000⟩, rfl, ⟨ok', bt'.mono kBof⟩, ?_⟩
    generalize (⟨m1.a, m1.b, m1.c, m1.d, m1.e % 1000, m1.f % 1000⟩ : Six) = sm at ok' bt' ⊢
    simp only [List.map_cons, List.map_nil, List.length_cons, List.length_nil, List.cons_append, List.nil_append, List.set_cons_zero, List.set_cons_succ, List.replicate_succ, List.replicate_zero, Nat.reduceSub, Nat.reduceAdd, List.reduceReplicate]
    refine ds_cons (ds_if (DW.dt (dw_or (dt_not (dt_of (de_call G__law_powers_right (hr.mono (by decide)) T.g__law_powers_right T.k__law_powers_right xt (da_cons (de_name 13 (da_cons (de_name 6 (da_nil ⟨_, _, _, rfl, ⟨⟨ok', bt'⟩, Bx, By⟩, ⟨_, rfl, ifF ?_⟩⟩)))))))))))
    refine (dw_or1 (dt_not (dt_of (de_call G__law_rejected (hr.mono (by decide)) T.g__law_rejected T.k__law_rejected xt (da_cons (de_name 8 (da_cons (de_ixAny (de_lst (da_cons (de_non (da_cons (de_ixL (de_name 3 (de_int ⟨_, _, _, rfl, rfl, rfl, (da_cons (de_str (da_nil ⟨szl, (de_call G__law_draw (hr.mono (by decide)) T.g__law_draw T.k__law_draw xt (da_cons (de_name 2 (da_cons (de_int (da_nil ⟨_, _, rfl, Ub, uOk, fun rr Mc ha hb Kc Uc => ⟨_, _, rfl, rfl, ha, hb, fun d hd => (da_nil ⟨_, _, d.tyN.getD "", rfl, ?_, ⟨_, rfl, ifF (ds_nil ?_)⟩⟩)⟩⟩))))))⟩)))⟩)))))))))))))))
    · refine ⟨⟨k1, b1.mono kBof⟩, ?_⟩
      simp only [List.mem_cons, List.not_mem_nil, or_false] at hd
      rcases hd with rfl | rfl | rfl
      · exact ⟨⟨rfl, .inl rfl⟩, rfl⟩
      · exact ⟨⟨rfl, .inr (.inr (.inr (.inr (.inl rfl))))⟩, rfl⟩
      · exact ⟨⟨rfl, .inr (.inr (.inr (.inl rfl)))⟩, rfl⟩
    simp only [List.map_cons, List.map_nil, List.length_cons, List.length_nil, List.cons_append, List.nil_append, List.set_cons_zero, List.set_cons_succ, List.replicate_succ, List.replicate_zero, Nat.reduceSub, Nat.reduceAdd, List.reduceReplicate]
    refine ds_cons (ds_if (dt_neL T.eqc_GridMap G_GridMap___eq__ (hr.mono (by decide)) (de_lc [("numbers", 4)] (.nm 4) (di_list (de_name 3 ⟨_, rfl, (lcMap (gOf (He.ga K "GridMap")) ?_ szl (de_name 5 ⟨_, _, rfl, rfl, rfl, ?_, ifF (ds_nil ?_)⟩))⟩)) nd (blkOk_by (N := N_law) (sc := defScope s_law) (by decide +kernel)) (fun _ _ _ _ _ => pg_name (i := 4) nd rfl (Or.inl rfl)))))
    · intro j e he
      obtain ⟨m, rfl, om, bm⟩ := hc j e he
      exact ⟨_, rfl, fun Z1 s1 H1 C1 cl1 fp1 => (de_call G__law_grid (hr.mono (by decide)) T.g__law_grid T.k__law_grid XT.none (da_cons (de_name 4 (da_nil ⟨_, rfl, ⟨om, bm.mono kBof⟩, ⟨rfl, rfl⟩⟩))))⟩
    · have one : ∀ m : Six, (∃ ns l, gmD (He.ga K "GridMap") m = .ins (He.ga K "GridMap") ns l) ∧ (∃ ns l, gmD (He.ga K "GridMap") m = .ins (He.ga K "GridMap") ns l) ∧ spGEq (He.ga K "GridMap") [gmD (He.ga K "GridMap") m, gmD (He.ga K "GridMap") m] Mc (fun d M3 => d = .bl true ∧ M3 = Mc) (fun _ _ _ _ => False) := fun m =>
        ⟨⟨_, _, rfl⟩, ⟨_, _, rfl⟩, m, m, rfl, true, ⟨fun _ => rfl, fun _ => rfl⟩, rfl, rfl⟩
      intro j u v hu hv
      match j, hu, hv with
      | 0, h, g => cases h; cases g; exact one m1
      | 1, h, g => cases h; cases g; exact one m2
      | 2, h, g => cases h; cases g; exact one m3
      | 3, h, g => cases h; cases g; exact one m4
      | n + 4, h, g => cases h
    refine ds_cons (ds_par 14 1 (de_call G__law_draw (hr.mono (by decide)) T.g__law_draw T.k__law_draw xt (da_cons (de_name 2 (da_cons (de_powN 1000000000 (da_nil ⟨_, _, rfl, Uc, uOk, fun far Md fa fb' Kd Ud => (de_sub (de_call G__law_draw (hr.mono (by decide)) T.g__law_draw T.k__law_draw xt (da_cons (de_name 2 (da_cons (de_int (da_nil ⟨_, _, rfl, Ud, uOk, fun k0 Me ga gb Ke Ue => (de_int ⟨_, _, rfl, rfl, ?_⟩)⟩)))))))⟩)))))) nd (hw := by rfl))
    have kk1 : -1000 ≤ k0 - 1000 := by omega
    have kk2 : k0 - 1000 ≤ 1001 := by omega
    generalize k0 - 1000 = kk at kk1 kk2 ⊢
    simp only [List.map_cons, List.map_nil, List.length_cons, List.length_nil, List.cons_append, List.nil_append, List.set_cons_zero, List.set_cons_succ, List.replicate_succ, List.replicate_zero, Nat.reduceSub, Nat.reduceAdd, List.reduceReplicate]
    have sOk : (⟨1, kk, 0, 1, 3, 0⟩ : Six).Ok := .inl (by simp [Six.det])
    have sBt : (⟨1, kk, 0, 1, 3, 0⟩ : Six).Bt 12 := sixBt (.of (by decide) (by decide)) (.of (by omega) (by omega)) (.of (by decide) (by decide)) (.of (by decide) (by decide)) (.of (by decide) (by decide)) (.of (by decide) (by decide))
    have sPw : (⟨1, kk, 0, 1, 3, 0⟩ : Six).PwOk far := ⟨sOk, sBt.mono kBof, (Six.Bt.inv' sOk sBt).mono kBof, fun n hn => by
      unfold Six.sg
      rw [if_pos (show 0 ≤ far from fa), shear_np]
      have hn2 : n < 2000000000 := by omega
      have hnb : FS.Bt 40 (n : Int) := .of (by omega) (by omega)
      have h12 : FS.Bt 12 kk := .of (by omega) (by omega)
      have h3 : FS.Bt 12 (3 : Int) := .of (by decide) (by decide)
      have c0 : FS.Bt kB 0 := (FS.Bt.of (k := 12) (x := 0) (by decide) (by decide)).mono kBof
      have c1 : FS.Bt kB 1 := (FS.Bt.of (k := 12) (x := 1) (by decide) (by decide)).mono kBof
      exact sixBt c1 ((h12.mul hnb).mono kBof) c0 c1 ((h3.mul hnb).mono kBof) c0⟩
    have sMp : (⟨1, kk, 0, 1, 3, 0⟩ : Six).mp far = ⟨1, kk * far, 0, 1, 3 * far, 0⟩ := by
      unfold Six.mp Six.sg
      rw [if_pos (show 0 ≤ far from fa), shear_np, show ((far.natAbs : Nat) : Int) = far by omega]
    refine ds_cons (ds_if (dt_neD (hr.units) (de_prop T.cls_GridMap T.p_GridMap_numbers G_GridMap_numbers (hr.mono (by decide)) (de_meth T.cls_GridMap T.m_GridMap_power G_GridMap_power (hr.mono (by decide)) xt (de_via (gmD (He.ga K "GridMap") ⟨1, kk, 0, 1, 3, 0⟩) (de_make T.mkr_GridMap G_GridMap___init__5 (hr.mono (by decide)) T.g_GridMap xt (da_cons (de_int (da_cons (de_name 1 (da_cons (de_int (da_cons (de_int (da_cons (de_int (da_nil (mk5 sOk (sBt.mono kBof) ⟨rfl, rfl⟩))))))))))))) ⟨_, _, .inl rfl, rfl, (da_cons (de_name 14 (da_nil (.inl ⟨_, _, rfl, sPw, ⟨_, _, .inl rfl, ⟨_, rfl, (de_tup (da_cons (de_int (da_cons (de_mul (de_name 1 (de_name 14 ⟨_, _, rfl, rfl, mulOkL (by omega) (by omega), (da_cons (de_int (da_cons (de_int (da_cons (de_mul (de_int (de_name 14 ⟨_, _, rfl, rfl, mulOkL (by decide) (by decide), (da_cons (de_int (da_nil ⟨szl, (neD_same (n := 1) (six_lay _) (show ((⟨1, kk, 0, 1, 3, 0⟩ : Six).mp far).tup = _ by rw [sMp]) (ds_nil ?_))⟩)))⟩))))))))⟩)))))))⟩⟩⟩))))⟩)))))
    have qOk : (⟨0, -1, 1, 0, 0, 0⟩ : Six).Ok := .inl (by decide)
    have qBt : (⟨0, -1, 1, 0, 0, 0⟩ : Six).Bt 12 := ⟨.of (by decide) (by decide), .of (by decide) (by decide), .of (by decide) (by decide), .of (by decide) (by decide), .of (by decide) (by decide), .of (by decide) (by decide)⟩
    have uOk' : quart.Ok := .inl (by decide)
    have uBt : quart.Bt 12 := ⟨.of (by decide) (by decide), .of (by decide) (by decide), .of (by decide) (by decide), .of (by decide) (by decide), .of (by decide) (by decide), .of (by decide) (by decide)⟩
    have qi : (⟨0, -1, 1, 0, 0, 0⟩ : Six).inv = quart := rfl
    have m0 := Int.emod_nonneg far (show (4 : Int) ≠ 0 by decide)
    have m9 := Int.emod_lt_of_pos far (show (0 : Int) < 4 by decide)
    have qPw : (⟨0, -1, 1, 0, 0, 0⟩ : Six).PwOk (0 - far) := ⟨qOk, qBt.mono kBof, by rw [qi]; exact uBt.mono kBof, fun n hn => by
      unfold Six.sg
      split
      · have : n = 0 := by omega
        subst this
        exact one_bt1.mono kBof
      · rw [qi]
        exact quart_bt n⟩
    have uPw : quart.PwOk (far % 4) := ⟨uOk', uBt.mono kBof, (Six.Bt.inv' uOk' uBt).mono kBof, fun n hn => by
      unfold Six.sg
      rw [if_pos m0]
      exact quart_bt n⟩
    have same : (⟨0, -1, 1, 0, 0, 0⟩ : Six).mp (0 - far) = quart.mp (far % 4) := by
      unfold Six.mp Six.sg
      rw [if_pos (show 0 ≤ far % 4 from m0)]
      split
      · have : far = 0 := by omega
        subst this
        rfl
      · rw [qi, quart_mod, show (0 - far).natAbs % 4 = (far % 4).natAbs by omega]
    refine ds_one (ds_if (dt_neO T.eqc_GridMap G_GridMap___eq__ (hr.mono (by decide)) (de_meth T.cls_GridMap T.m_GridMap_power G_GridMap_power (hr.mono (by decide)) xt (de_via (gmD (He.ga K "GridMap") ⟨0, -1, 1, 0, 0, 0⟩) (de_make T.mkr_GridMap G_GridMap___init__ (hr.mono (by decide)) T.g_GridMap xt (da_cons (de_int (da_cons (de_neg (de_int ⟨_, rfl, (da_cons (de_int (da_cons (de_int (da_nil (mk4 qOk (qBt.mono kBof) ⟨rfl, rfl⟩))))))⟩)))))) ⟨_, _, .inl rfl, rfl, (da_cons (de_sub (de_int (de_name 14 ⟨_, _, rfl, rfl, (da_nil (.inl ⟨_, _, rfl, qPw, (de_meth T.cls_GridMap T.m_GridMap_power G_GridMap_power (hr.mono (by decide)) xt (de_via (gmD (He.ga K "GridMap") ⟨0, 1, -1, 0, 0, 0⟩) (de_make T.mkr_GridMap G_GridMap___init__ (hr.mono (by decide)) T.g_GridMap xt (da_cons (de_int (da_cons (de_int (da_cons (de_neg (de_int ⟨_, rfl, (da_cons (de_int (da_nil (mk4 uOk' (uBt.mono kBof) ⟨rfl, rfl⟩))))⟩)))))))) ⟨_, _, .inl rfl, rfl, (da_cons (de_mod (de_name 14 (de_int ⟨_, _, rfl, rfl, by decide, (da_nil (.inl ⟨_, _, rfl, uPw, ⟨⟨_, _, .inl rfl⟩, ⟨_, _, .inl rfl⟩, ⟨_, _, rfl, true, ⟨fun _ => same, fun _ => rfl⟩, ⟨true, rfl, ifF (ds_nil ?_)⟩⟩⟩⟩))⟩))))⟩))⟩))⟩))))⟩))))
    exact ⟨_, _, _, _, _, _, _, _, _, _, _, _, _, _, _, rfl⟩
  · intro δ M1 _
    refine ds_one (ds_ret (de_bl ?_))
    exact hp _
end
/-! ### the head -/
abbrev R : PySem.W.OpenRow := PySem.W.OpenLaw.row PySem.Challenge.rw_latticeshapes_k07_whole_maps_composed
abbrev hk : PySem.W.Hook := hookP 7 fc fn
def ob (s : PySem.W.SharedT) : AlP := obsPG 7 fc fn (HandSHeadRun.getT s)
theorem ob_eq (s : PySem.W.SharedT) : ob s = hk.obs s.abs := obsPG_eq (HandSHeadRun.getT_eq s)
def loose : List PySem.Str := (["_wall", "ShapeError", "InvalidInteger", "InvalidPoint", "InvalidMap", "is_integer", "check_integer", "is_point", "check_point", "GridMap", "check_map", "_law_draws", "_law_draw", "_law_product", "_law_numbers", "_law_image", "_law_grid", "_law_rejected", "_law_powers_right"] : List PySem.Str)
set_option maxHeartbeats 0 in
theorem run (w : World) : HandSHeadRun.RunEq R (PySem.W.view R.prog [24]) hk ob 6000 loose w := by
  intro os
  kernel_rfl
end K07
open PySem PySem.W PySem.Calls PyProof.Rows in
set_option maxHeartbeats 0 in
theorem PySem.Challenge.cw_latticeshapes_k07_whole_maps_composed_holds : PySem.Challenge.rw_latticeshapes_k07_whole_maps_composed.Holds := by
  w_on; o_law
  refine HandSHeadRun.head_any (r := OpenLaw.row PySem.Challenge.rw_latticeshapes_k07_whole_maps_composed) (q := view (OpenLaw.row PySem.Challenge.rw_latticeshapes_k07_whole_maps_composed).prog [24]) (H := K07.hk) (ob := K07.ob) (M := 6000) (loose := K07.loose) (d := HandSHeadRun.topDef (OpenLaw.row PySem.Challenge.rw_latticeshapes_k07_whole_maps_composed).prog 24) (kwd := []) K07.ob_eq
    (by kernel_rfl) (fun s => by kernel_rfl) K07.run (by kernel_rfl) (by kernel_rfl) (by kernel_rfl) (by rfl) (by first | assumption | decide +kernel) (by decide +kernel) ⟨rfl, rfl, rfl, rfl, rfl, by decide +kernel⟩ ?hw ?hc
  case hw => w_witness2
  case hc =>
    refine DL.walk_ofEW (l := PySem.Challenge.rw_latticeshapes_k07_whole_maps_composed) (n := 63) (k := 10) (x := "script") (CX := fun w => L2.CX (PySem.Challenge.rw_latticeshapes_k07_whole_maps_composed).prog w) rfl (by decide) (by kernel_rfl) ⟨rfl, by decide, by decide⟩ ?F (fun _ _ _ _ _ z => DL.cx_no z)
    intro w mg fa h Y G hmg0
    obtain ⟨K, KX, c⟩ := Y
    have hmg : mg ("law" : PySem.Str) = some (.ref fa) := by
      have e : (HandSHeadRun.topDef (OpenLaw.row PySem.Challenge.rw_latticeshapes_k07_whole_maps_composed).prog 24).name = ("law" : PySem.Str) := by kernel_rfl
      rw [← e]
      exact hmg0
    have T : DL.Ty K07.fc K07.fn K mg := ⟨⟨h, KX, G⟩, c⟩
    have e := hmg.symm.trans T.g_law
    cases e
    obtain ⟨fd, F⟩ := T.f_law
    have b := L2.FunD.bindsA (ps := ["script"]) F fun _ _ _ _ _ _ us hl => match us, hl with | [_], _ => rfl
    exact ⟨K, fd, DL.spOf K (DL.lawS 63), KX, fun s v => b s [v] rfl, fun H a ns hl _ hS => DL.law_start hl hS, fun base _ _ => K07.ok_law T F⟩
