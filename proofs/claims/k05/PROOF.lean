import PyProof.Rows.All
import Wide.All
import OpenK.AllK
import Wide.FinOn
import HandS.ForMost
import HandS.ForExc
import HandS.Wide
import HandS.WideBits
import HandS.IsInst
import HandS.Steps
import HandS.Defaults
import HandS.MakeKw
import HandS.EndBits
import HandS.ExcIs
import HandS.Evl
import Flt.Len
import HandS.SortRule
import HandS.DictTup
import PySem.Challenge.RW_gaphand_k05_three_gaps
set_option Elab.async false
set_option linter.all false
set_option maxRecDepth 100000
set_option maxHeartbeats 4000000
namespace Gh
/-! ## gcd by Euclid's loop -/
theorem gcd_step {a b : Int} (ha : 0 ≤ a) (hb : 0 < b) : Int.gcd b (a % b) = Int.gcd a b := by
  have e : (a % b).natAbs = a.natAbs % b.natAbs := by
    have h1 : a = (a.natAbs : Int) := by omega
    have h2 : b = (b.natAbs : Int) := by omega
    rw [h1, h2, ← Int.natCast_emod]
    rfl
  show Nat.gcd b.natAbs (a % b).natAbs = Nat.gcd a.natAbs b.natAbs
  rw [e, Nat.gcd_comm a.natAbs, Nat.gcd_rec b.natAbs a.natAbs, Nat.gcd_comm]

/-! ## the slanted sum -/
def S : Nat → Int → Int → Int → Int
  | 0, _, _, _ => 0
  | n + 1, step, start, size => S n step start size + (start + (n : Int) * step) / size
theorem S_add (n : Nat) (a b m : Int) : ∀ k : Nat, S (n + k) a b m = S n a b m + S k a (b + (n : Int) * a) m
  | 0 => by simp [S]
  | k + 1 => by
    have ih := S_add n a b m k
    show S (n + k) a b m + (b + ((n + k : Nat) : Int) * a) / m = S n a b m + (S k a (b + (n : Int) * a) m + (b + (n : Int) * a + (k : Int) * a) / m)
    rw [ih, show b + ((n + k : Nat) : Int) * a = b + (n : Int) * a + (k : Int) * a by rw [Int.natCast_add]; grind]
    omega
theorem S_front (k : Nat) (a b m : Int) : S (k + 1) a b m = b / m + S k a (b + a) m := by
  have h := S_add 1 a b m k
  rw [Nat.add_comm 1 k] at h
  rw [h]
  simp [S]
theorem S_start (a b m : Int) (hm : 0 < m) : ∀ n : Nat, S n a b m = S n a (b % m) m + b / m * (n : Int)
  | 0 => by simp [S]
  | n + 1 => by
    have ih := S_start a b m hm n
    show S n a b m + (b + (n : Int) * a) / m = S n a (b % m) m + (b % m + (n : Int) * a) / m + b / m * ((n + 1 : Nat) : Int)
    have e : b + (n : Int) * a = b % m + (n : Int) * a + b / m * m := by
      have := Int.emod_add_mul_ediv b m
      grind
    rw [ih, e, Int.add_mul_ediv_right _ _ (by omega)]
    rw [show ((n + 1 : Nat) : Int) = (n : Int) + 1 from rfl]
    grind
theorem S_shift (c b a : Int) (ha : 0 < a) : ∀ k : Nat, S k c (b + a) a = S k c b a + (k : Int)
  | 0 => by simp [S]
  | k + 1 => by
    have ih := S_shift c b a ha k
    show S k c (b + a) a + (b + a + (k : Int) * c) / a = S k c b a + (b + (k : Int) * c) / a + ((k + 1 : Nat) : Int)
    rw [ih, show b + a + (k : Int) * c = b + (k : Int) * c + 1 * a by grind, Int.add_mul_ediv_right _ _ (by omega)]
    omega
/-- 0 + 1 + .. + (n - 1), as the program has it -/
theorem tri_succ (n : Int) : (n + 1) * ((n + 1) - 1) / 2 = n * (n - 1) / 2 + n := by
  have e : (n + 1) * ((n + 1) - 1) = n * (n - 1) + n * 2 := by grind
  rw [e, Int.add_mul_ediv_right _ _ (by omega)]
theorem S_step (a b m : Int) (hm : 0 < m) : ∀ n : Nat, S n a b m = S n (a % m) b m + a / m * ((n : Int) * ((n : Int) - 1) / 2)
  | 0 => by simp [S]
  | n + 1 => by
    have ih := S_step a b m hm n
    show S n a b m + (b + (n : Int) * a) / m = S n (a % m) b m + (b + (n : Int) * (a % m)) / m + a / m * (((n : Int) + 1) * (((n : Int) + 1) - 1) / 2)
    have e : b + (n : Int) * a = b + (n : Int) * (a % m) + (n : Int) * (a / m) * m := by
      have := Int.emod_add_mul_ediv a m
      grind
    rw [ih, e, Int.add_mul_ediv_right _ _ (by omega), tri_succ]
    grind
theorem S_zero (b m : Int) (h0 : 0 ≤ b) (h1 : b < m) : ∀ n : Nat, S n 0 b m = 0
  | 0 => rfl
  | n + 1 => by
    show S n 0 b m + (b + (n : Int) * 0) / m = 0
    rw [S_zero b m h0 h1 n, Int.mul_zero, Int.add_zero, Int.ediv_eq_zero_of_lt h0 h1]
    rfl
/-- the heart: counted the other way round -/
theorem S_flip (a b m : Int) (ha : 0 < a) (ham : a < m) (hb : 0 ≤ b) (hbm : b < m) : ∀ n : Nat, S n a b m = S ((b + (n : Int) * a) / m).toNat m ((b + (n : Int) * a) % m) a
  | 0 => by
    have e : (b + ((0 : Nat) : Int) * a) / m = 0 := by
      rw [show b + ((0 : Nat) : Int) * a = b by simp]
      exact Int.ediv_eq_zero_of_lt hb hbm
    rw [e]
    rfl
  | n + 1 => by
    have ih := S_flip a b m ha ham hb hbm n
    show S n a b m + (b + (n : Int) * a) / m = _
    rw [show b + ((n + 1 : Nat) : Int) * a = b + (n : Int) * a + a by rw [show ((n + 1 : Nat) : Int) = (n : Int) + 1 from rfl]; grind]
    have hy : 0 ≤ b + (n : Int) * a := Int.add_nonneg hb (Int.mul_nonneg (Int.natCast_nonneg n) (by omega))
    rw [ih]
    generalize b + (n : Int) * a = y at hy
    have hm : 0 < m := by omega
    have q0 : 0 ≤ y / m := Int.ediv_nonneg hy (by omega)
    have r0 : 0 ≤ y % m := Int.emod_nonneg y (by omega)
    have r1 : y % m < m := Int.emod_lt_of_pos y hm
    have ey := Int.emod_add_mul_ediv y m
    by_cases hc : y % m + a < m
    · have e1 : (y + a) / m = y / m := by
        rw [show y + a = (y % m + a) + (y / m) * m by grind, Int.add_mul_ediv_right _ _ (by omega), Int.ediv_eq_zero_of_lt (by omega) hc]
        omega
      have e2 : (y + a) % m = y % m + a := by
        rw [show y + a = (y % m + a) + m * (y / m) by omega, Int.add_mul_emod_self_left, Int.emod_eq_of_lt (by omega) hc]
      rw [e1, e2, S_shift _ _ _ ha]
      omega
    · have e1 : (y + a) / m = y / m + 1 := by
        rw [show y + a = (y % m + a - m) + (y / m + 1) * m by grind, Int.add_mul_ediv_right _ _ (by omega), Int.ediv_eq_zero_of_lt (by omega) (by omega)]
        omega
      have e2 : (y + a) % m = y % m + a - m := by
        rw [show y + a = (y % m + a - m) + m * (y / m + 1) by grind, Int.add_mul_emod_self_left, Int.emod_eq_of_lt (by omega) (by omega)]
      have e3 : (y % m + a - m) / a = 0 := Int.ediv_eq_zero_of_lt (by omega) (by omega)
      rw [e1, e2, show (y / m + 1).toNat = (y / m).toNat + 1 by omega, S_front, e3,
        show y % m + a - m + m = y % m + a by omega, S_shift _ _ _ ha]
      omega
/-- one turn of the program's loop -/
theorem S_turn {n a b m : Int} (hn : 0 < n) (hm : 0 < m) :
    S n.toNat a b m = a / m * (n * (n - 1) / 2) + b / m * n + S ((b % m + n * (a % m)) / m).toNat m ((b % m + n * (a % m)) % m) (a % m) := by
  have en : ((n.toNat : Nat) : Int) = n := by omega
  rw [S_step a b m hm, S_start (a % m) b m hm, en]
  have r0 : 0 ≤ b % m := Int.emod_nonneg b (by omega)
  have r1 : b % m < m := Int.emod_lt_of_pos b hm
  have s0 : 0 ≤ a % m := Int.emod_nonneg a (by omega)
  have s1 : a % m < m := Int.emod_lt_of_pos a hm
  by_cases ha : a % m = 0
  · rw [ha, S_zero _ _ r0 r1, Int.mul_zero, Int.add_zero, Int.ediv_eq_zero_of_lt r0 r1]
    simp [S]
    omega
  · rw [S_flip (a % m) (b % m) m (by omega) s1 r0 r1, en]
    omega
theorem S_succ (n : Nat) (a b m : Int) : S (n + 1) a b m = S n a b m + (b + (n : Int) * a) / m := rfl
/-- the new many is no greater, the new size smaller -/
theorem turn_many {n a b m : Int} (hn : 0 < n) (hm : 0 < m) : 0 ≤ (b % m + n * (a % m)) / m ∧ (b % m + n * (a % m)) / m ≤ n ∧ (a % m = 0 → (b % m + n * (a % m)) / m = 0) := by
  have r0 : 0 ≤ b % m := Int.emod_nonneg b (by omega)
  have r1 : b % m < m := Int.emod_lt_of_pos b hm
  have s0 : 0 ≤ a % m := Int.emod_nonneg a (by omega)
  have s1 : a % m < m := Int.emod_lt_of_pos a hm
  refine ⟨Int.ediv_nonneg (Int.add_nonneg r0 (Int.mul_nonneg (by omega) s0)) (by omega), ?_, fun h => ?_⟩
  · have h1 : n * (a % m) ≤ n * (m - 1) := Int.mul_le_mul_of_nonneg_left (by omega) (by omega)
    have h2 : b % m + n * (a % m) < (n + 1) * m := by grind
    have := Int.ediv_lt_of_lt_mul hm h2
    omega
  · rw [h, Int.mul_zero, Int.add_zero, Int.ediv_eq_zero_of_lt r0 r1]
end Gh

namespace Gh
/-! ## neighbours of beat 0 -/
theorem mul_ge {u p : Int} (hu : 1 ≤ u) (hp : 0 ≤ p) : p ≤ u * p := by
  have := Int.mul_le_mul_of_nonneg_right hu hp
  omega
theorem mul_le_neg {v b : Int} (hv : v ≤ -1) (hb : 0 ≤ b) : v * b ≤ -b := by
  have := Int.mul_le_mul_of_nonneg_right hv hb
  omega
structure Four (size step p n b k : Int) : Prop where
  p1 : 1 ≤ p
  n1 : 1 ≤ n
  b1 : 1 ≤ b
  k1 : 1 ≤ k
  hp : size ∣ p * step - n
  hb : size ∣ b * step + k
  det : b * n + p * k = size
section
variable {size step p n b k lap g : Int}
theorem Four.pos (F : Four size step p n b k) : 0 < size := by
  have h1 := Int.mul_pos (show 0 < b by have := F.b1; omega) (show 0 < n by have := F.n1; omega)
  have h2 := Int.mul_pos (show 0 < p by have := F.p1; omega) (show 0 < k by have := F.k1; omega)
  have := F.det
  omega
theorem Four.lt (F : Four size step p n b k) : n < size ∧ k < size ∧ p < size ∧ b < size := by
  have a1 := F.p1
  have a2 := F.n1
  have a3 := F.b1
  have a4 := F.k1
  have h1 := mul_ge a3 (show 0 ≤ n by omega)
  have h2 := mul_ge a1 (show 0 ≤ k by omega)
  have h3 := mul_ge a2 (show 0 ≤ b by omega)
  have h4 := mul_ge a4 (show 0 ≤ p by omega)
  rw [Int.mul_comm n b] at h3
  rw [Int.mul_comm k p] at h4
  have := F.det
  omega
/-- every beat's way is a sum of the two gaps -/
theorem Four.uv (F : Four size step p n b k) {d x : Int} (h : size ∣ d * step - x) : ∃ u v, d = u * p + v * b ∧ x = u * n - v * k := by
  have hs := F.pos
  obtain ⟨cp, ep⟩ := F.hp
  obtain ⟨cb, eb⟩ := F.hb
  obtain ⟨c, e⟩ := h
  have det := F.det
  have e1 : cb * p - cp * b = 1 := by
    have q : size * (cb * p - cp * b) = size * 1 := by
      have q1 : size * cb * p = (b * step + k) * p := by rw [eb]
      have q2 : size * cp * b = (p * step - n) * b := by rw [ep]
      grind
    exact Int.eq_of_mul_eq_mul_left (by omega) q
  have e2 : cb * n + cp * k = step := by
    have q : size * (cb * n + cp * k) = size * step := by
      have q1 : size * cb * n = (b * step + k) * n := by rw [eb]
      have q2 : size * cp * k = (p * step - n) * k := by rw [ep]
      grind
    exact Int.eq_of_mul_eq_mul_left (by omega) q
  refine ⟨d * cb - b * c, p * c - d * cp, ?_, ?_⟩
  · have : (d * cb - b * c) * p + (p * c - d * cp) * b = d * (cb * p - cp * b) := by grind
    rw [this, e1, Int.mul_one]
  · have : (d * cb - b * c) * n - (p * c - d * cp) * k = d * (cb * n + cp * k) - c * (b * n + p * k) := by grind
    rw [this, e2, det]
    grind
/-- where a beat d on (or back) may stand, x places on -/
theorem Four.cases (F : Four size step p n b k) {d x : Int} (h : size ∣ d * step - x) (hx : 0 < x) :
    (p ≤ d ∧ (n ≤ x ∨ p + b ≤ d)) ∨ n + k ≤ x ∨ (d ≤ -b ∧ (k ≤ x ∨ d ≤ -p - b)) := by
  obtain ⟨u, v, e1, e2⟩ := F.uv h
  have a1 := F.p1
  have a2 := F.n1
  have a3 := F.b1
  have a4 := F.k1
  by_cases hv : 0 ≤ v
  · have hu : 1 ≤ u := by
      apply Decidable.byContradiction
      intro z
      have z1 : u * n ≤ 0 := Int.mul_nonpos_of_nonpos_of_nonneg (by omega) (by omega)
      have z2 : 0 ≤ v * k := Int.mul_nonneg hv (by omega)
      omega
    have h1 := mul_ge hu (show 0 ≤ p by omega)
    have h2 : 0 ≤ v * b := Int.mul_nonneg hv (by omega)
    left
    refine ⟨by omega, ?_⟩
    by_cases hv0 : v = 0
    · left
      have h3 := mul_ge hu (show 0 ≤ n by omega)
      rw [hv0, Int.zero_mul] at e2
      omega
    · right
      have h3 := mul_ge (show 1 ≤ v by omega) (show 0 ≤ b by omega)
      omega
  · have hv1 : v ≤ -1 := by omega
    have h1 := mul_le_neg hv1 (show 0 ≤ b by omega)
    have h2 := mul_le_neg hv1 (show 0 ≤ k by omega)
    by_cases hu : 1 ≤ u
    · right
      left
      have h3 := mul_ge hu (show 0 ≤ n by omega)
      omega
    · right
      right
      have h3 : u * p ≤ 0 := Int.mul_nonpos_of_nonpos_of_nonneg (by omega) (by omega)
      refine ⟨by omega, ?_⟩
      by_cases hu0 : u = 0
      · left
        rw [hu0, Int.zero_mul] at e2
        omega
      · right
        have h4 := mul_le_neg (show u ≤ -1 by omega) (show 0 ≤ p by omega)
        omega
theorem Four.grow1 (F : Four size step p n b k) {t : Int} (h0 : 0 ≤ t) (h : t * k ≤ n - 1) : Four size step (p + t * b) (n - t * k) b k := by
  have a1 := F.p1
  have a3 := F.b1
  have h1 : 0 ≤ t * b := Int.mul_nonneg h0 (by omega)
  refine ⟨by omega, by omega, a3, F.k1, ?_, F.hb, ?_⟩
  · have e : (p + t * b) * step - (n - t * k) = (p * step - n) + (b * step + k) * t := by grind
    rw [e]
    exact Int.dvd_add F.hp (Int.dvd_mul_of_dvd_left F.hb)
  · have := F.det
    grind
theorem Four.grow2 (F : Four size step p n b k) {t : Int} (h0 : 0 ≤ t) (h : t * n ≤ k - 1) : Four size step p n (b + t * p) (k - t * n) := by
  have a1 := F.p1
  have a3 := F.b1
  have h1 : 0 ≤ t * p := Int.mul_nonneg h0 (by omega)
  refine ⟨a1, F.n1, by omega, by omega, F.hp, ?_, ?_⟩
  · have e : (b + t * p) * step + (k - t * n) = (b * step + k) + (p * step - n) * t := by grind
    rw [e]
    exact Int.dvd_add F.hb (Int.dvd_mul_of_dvd_left F.hp)
  · have := F.det
    grind
/-- size, step, lap and what divides both -/
structure Lap (size step lap g : Int) : Prop where
  g1 : 1 ≤ g
  l1 : 1 ≤ lap
  e : lap * g = size
  gs : g ∣ step
  least : ∀ d, size ∣ d * step → lap ∣ d
theorem Lap.pos (L : Lap size step lap g) : 0 < size := by
  have := Int.mul_pos (show 0 < lap by have := L.l1; omega) (show 0 < g by have := L.g1; omega)
  have := L.e
  omega
theorem Lap.ge (L : Lap size step lap g) {d : Int} (h : size ∣ d * step) (hd : 0 < d) : lap ≤ d := Int.le_of_dvd hd (L.least d h)
theorem Lap.mk' {size step : Int} (hs : 0 < size) : Lap size step (size / (Int.gcd size step : Int)) (Int.gcd size step : Int) := by
  have hg : 0 < Int.gcd size step := Int.gcd_pos_of_ne_zero_left _ (by omega)
  have d1 : (Int.gcd size step : Int) ∣ size := Int.gcd_dvd_left ..
  have d2 : (Int.gcd size step : Int) ∣ step := Int.gcd_dvd_right ..
  obtain ⟨q, eq⟩ := d1
  obtain ⟨r, er⟩ := d2
  have hgi : (0 : Int) < (Int.gcd size step : Int) := by omega
  generalize hG : Int.gcd size step = G at *
  have eq' : size / (G : Int) = q := by rw [eq, Int.mul_ediv_cancel_left _ (by omega)]
  have cop : Int.gcd q r = 1 := by
    have h1 : Int.gcd ((G : Int) * q) ((G : Int) * r) = G * Int.gcd q r := by
      rw [Int.gcd_mul_left]
      simp
    rw [← eq, ← er, hG] at h1
    have h2 : G * 1 = G * Int.gcd q r := by omega
    exact (Nat.eq_of_mul_eq_mul_left hg h2).symm
  have hq : 0 < q := by
    apply Decidable.byContradiction
    intro z
    have : (G : Int) * q ≤ 0 := Int.mul_nonpos_of_nonneg_of_nonpos (by omega) (by omega)
    omega
  rw [eq']
  refine ⟨by omega, by omega, by rw [eq, Int.mul_comm], ⟨r, er⟩, fun d h => ?_⟩
  obtain ⟨c, e⟩ := h
  have e2 : q ∣ d * r := by
    refine ⟨c, ?_⟩
    have e3 : (G : Int) * (d * r) = (G : Int) * (q * c) := by
      rw [er, eq] at e
      grind
    exact Int.eq_of_mul_eq_mul_left (by omega) e3
  have e4 : q.natAbs ∣ d.natAbs * r.natAbs := by
    rw [← Int.natAbs_mul]
    exact Int.natAbs_dvd_natAbs.mpr e2
  exact Int.natAbs_dvd_natAbs.mp (Nat.Coprime.dvd_of_dvd_mul_right cop e4)
theorem Four.ne (F : Four size step p n b k) (L : Lap size step lap g) (h : p + b < lap) : n ≠ k := by
  intro e
  have d : size ∣ (p + b) * step := by
    have : (p + b) * step = (p * step - n) + (b * step + k) := by grind
    rw [this]
    exact Int.dvd_add F.hp F.hb
  have := L.ge d (by have := F.p1; have := F.b1; omega)
  omega
theorem Four.eq_g (F : Four size step p n b k) (L : Lap size step lap g) (e : n = k) : n ≤ g := by
  have d : size ∣ (p + b) * step := by
    have : (p + b) * step = (p * step - n) + (b * step + k) := by grind
    rw [this]
    exact Int.dvd_add F.hp F.hb
  have h1 := L.ge d (by have := F.p1; have := F.b1; omega)
  apply Decidable.byContradiction
  intro z
  have h2 : lap * n ≤ (p + b) * n := Int.mul_le_mul_of_nonneg_right h1 (by have := F.n1; omega)
  have h3 : lap * g < lap * n := Int.mul_lt_mul_of_pos_left (by omega) (by have := L.l1; omega)
  have h4 : (p + b) * n = size := by
    have := F.det
    grind
  have := L.e
  omega
theorem four_start (h1 : 1 ≤ step) (h2 : step < size) : Four size step 1 step 1 (size - step) :=
  ⟨by omega, h1, by omega, by omega, ⟨0, by omega⟩, ⟨1, by omega⟩, by omega⟩
/-- the turns of around: how often, and what comes -/
theorem around1 (F : Four size step p n b k) {many t : Int} (hk : k < n) (hm : p + b < many) (hp : p < many) (ht : t = if (many - 1 - p) / b < (n - 1) / k then (many - 1 - p) / b else (n - 1) / k) :
    1 ≤ t ∧ Four size step (p + t * b) (n - t * k) b k ∧ p + t * b < many ∧ p + b < p + t * b + b ∧ t ≤ n ∧ t * b ≤ many := by
  have a1 := F.p1
  have a2 := F.n1
  have a3 := F.b1
  have a4 := F.k1
  have x1 : 1 ≤ (n - 1) / k := (Int.le_ediv_iff_mul_le (by omega)).mpr (by omega)
  have x2 : 1 ≤ (many - 1 - p) / b := (Int.le_ediv_iff_mul_le (by omega)).mpr (by omega)
  have t1 : 1 ≤ t := by rw [ht]; split <;> assumption
  have t2 : t ≤ (n - 1) / k := by rw [ht]; split <;> omega
  have t3 : t ≤ (many - 1 - p) / b := by rw [ht]; split <;> omega
  have m2 := (Int.le_ediv_iff_mul_le (show 0 < k by omega)).mp t2
  have m3 := (Int.le_ediv_iff_mul_le (show 0 < b by omega)).mp t3
  have m4 := mul_ge t1 (show 0 ≤ b by omega)
  have m5 : t ≤ t * k := by
    have := mul_ge a4 (show 0 ≤ t by omega)
    rw [Int.mul_comm]
    exact this
  exact ⟨t1, F.grow1 (by omega) m2, by omega, by omega, by omega, by omega⟩
theorem around2 (F : Four size step p n b k) (L : Lap size step lap g) {many t : Int} (hk : ¬ k < n) (hm : p + b < many) (hl : many ≤ lap) (hb : b < many) (ht : t = if (many - 1 - b) / p < (k - 1) / n then (many - 1 - b) / p else (k - 1) / n) :
    1 ≤ t ∧ Four size step p n (b + t * p) (k - t * n) ∧ b + t * p < many ∧ p + b < p + (b + t * p) ∧ t ≤ k ∧ t * p ≤ many := by
  have a1 := F.p1
  have a2 := F.n1
  have a3 := F.b1
  have a4 := F.k1
  have ne := F.ne L (by omega)
  have x1 : 1 ≤ (k - 1) / n := (Int.le_ediv_iff_mul_le (by omega)).mpr (by omega)
  have x2 : 1 ≤ (many - 1 - b) / p := (Int.le_ediv_iff_mul_le (by omega)).mpr (by omega)
  have t1 : 1 ≤ t := by rw [ht]; split <;> assumption
  have t2 : t ≤ (k - 1) / n := by rw [ht]; split <;> omega
  have t3 : t ≤ (many - 1 - b) / p := by rw [ht]; split <;> omega
  have m2 := (Int.le_ediv_iff_mul_le (show 0 < n by omega)).mp t2
  have m3 := (Int.le_ediv_iff_mul_le (show 0 < p by omega)).mp t3
  have m4 := mul_ge t1 (show 0 ≤ p by omega)
  have m5 : t ≤ t * n := by
    have := mul_ge a2 (show 0 ≤ t by omega)
    rw [Int.mul_comm]
    exact this
  exact ⟨t1, F.grow2 (by omega) m2, by omega, by omega, by omega, by omega⟩
/-- what is told of the first many beats -/
structure Told (size step many p n b k : Int) : Prop where
  f : Four size step p n b k
  pm : p < many
  bm : b < many
  all : many ≤ p + b
/-- the one after a beat: no other one stands between -/
def due (p n b k many beat : Int) : Int × Int :=
  if beat + p < many then (beat + p, n) else if b ≤ beat then (beat - b, k) else (beat + p - b, n + k)
theorem Told.due_in {many beat : Int} (T : Told size step many p n b k) (h0 : 0 ≤ beat) (h1 : beat < many) : 0 ≤ (due p n b k many beat).1 ∧ (due p n b k many beat).1 < many ∧ 1 ≤ (due p n b k many beat).2 := by
  have := T.f.p1
  have := T.f.n1
  have := T.f.b1
  have := T.f.k1
  have := T.pm
  have := T.bm
  have := T.all
  unfold due
  split
  · exact ⟨by omega, by omega, by omega⟩
  · split
    · exact ⟨by omega, by omega, by omega⟩
    · exact ⟨by show 0 ≤ beat + p - b; omega, by show beat + p - b < many; omega, by show 1 ≤ n + k; omega⟩
theorem Told.due_cg {many beat : Int} (T : Told size step many p n b k) : size ∣ ((due p n b k many beat).1 - beat) * step - (due p n b k many beat).2 := by
  have h1 := T.f.hp
  have h2 := T.f.hb
  unfold due
  split
  · show size ∣ (beat + p - beat) * step - n
    rw [show beat + p - beat = p by omega]
    exact h1
  · split
    · show size ∣ (beat - b - beat) * step - k
      rw [show (beat - b - beat) * step - k = -(b * step + k) by grind]
      exact Int.dvd_neg.mpr h2
    · show size ∣ (beat + p - b - beat) * step - (n + k)
      rw [show (beat + p - b - beat) * step - (n + k) = (p * step - n) - (b * step + k) by grind]
      exact Int.dvd_sub h1 h2
theorem Told.none_between {many beat c x : Int} (T : Told size step many p n b k) (h0 : 0 ≤ beat) (h1 : beat < many) (c0 : 0 ≤ c) (c1 : c < many) (hx : size ∣ (c - beat) * step - x) (x0 : 0 < x) : (due p n b k many beat).2 ≤ x := by
  have := T.f.p1
  have := T.f.n1
  have := T.f.b1
  have := T.f.k1
  have := T.pm
  have := T.bm
  have := T.all
  have hc := T.f.cases hx x0
  unfold due
  split
  · show n ≤ x
    omega
  · split
    · show k ≤ x
      omega
    · show n + k ≤ x
      omega
end
end Gh

namespace Gh
section
variable {size step many p n b k p' n' b' k' : Int}
theorem Told.one (T : Told size step many p n b k) (U : Told size step many p' n' b' k') : n ≤ n' ∧ k ≤ k' ∧ (n' ≤ n → p ≤ p') ∧ (k' ≤ k → b ≤ b') := by
  have a1 := T.f.p1
  have a2 := T.f.n1
  have a3 := T.f.b1
  have a4 := T.f.k1
  have c1 := U.f.p1
  have c2 := U.f.n1
  have c3 := U.f.b1
  have c4 := U.f.k1
  have t1 := T.all
  have u1 := U.pm
  have u2 := U.bm
  have h1 := T.f.cases (d := p') (x := n') U.f.hp (by omega)
  have h2 := T.f.cases (d := -b') (x := k') (by
    have := Int.dvd_neg.mpr U.f.hb
    rw [show -b' * step - k' = -(b' * step + k') by grind]
    exact this) (by omega)
  omega
/-- there is but one telling -/
theorem Told.uniq (T : Told size step many p n b k) (U : Told size step many p' n' b' k') : p = p' ∧ n = n' ∧ b = b' ∧ k = k' := by
  have h1 := T.one U
  have h2 := U.one T
  omega
/-- what after and before tell -/
def bdue (p b many beat : Int) : Int := if p ≤ beat then beat - p else if beat + b < many then beat + b else beat + b - p
structure After (size step many beat r : Int) : Prop where
  r0 : 0 ≤ r
  r1 : r < many
  one : many = 1 → r = beat
  due : ∀ p n b k, Told size step many p n b k → r = (due p n b k many beat).1
  ex : 1 < many → ∃ p n b k, Told size step many p n b k
structure Before (size step many beat r : Int) : Prop where
  r0 : 0 ≤ r
  r1 : r < many
  one : many = 1 → r = beat
  due : ∀ p n b k, Told size step many p n b k → r = bdue p b many beat
  ex : 1 < many → ∃ p n b k, Told size step many p n b k
theorem Told.bdue_in {beat : Int} (T : Told size step many p n b k) (h0 : 0 ≤ beat) (h1 : beat < many) : 0 ≤ bdue p b many beat ∧ bdue p b many beat < many := by
  have := T.f.p1
  have := T.f.b1
  have := T.pm
  have := T.bm
  have := T.all
  unfold bdue
  split
  · omega
  · split <;> omega
theorem Told.there {beat : Int} (T : Told size step many p n b k) (h0 : 0 ≤ beat) (h1 : beat < many) : bdue p b many (Gh.due p n b k many beat).1 = beat := by
  have := T.f.p1
  have := T.f.b1
  have := T.pm
  have := T.bm
  have := T.all
  unfold Gh.due bdue
  split
  · show (if p ≤ beat + p then beat + p - p else _) = beat
    rw [if_pos (by omega)]
    omega
  · split
    · show (if p ≤ beat - b then _ else if beat - b + b < many then beat - b + b else _) = beat
      rw [if_neg (by omega), if_pos (by omega)]
      omega
    · show (if p ≤ beat + p - b then _ else if beat + p - b + b < many then _ else beat + p - b + b - p) = beat
      rw [if_neg (by omega), if_neg (by omega)]
      omega
theorem Told.back {beat : Int} (T : Told size step many p n b k) (h0 : 0 ≤ beat) (h1 : beat < many) : (Gh.due p n b k many (bdue p b many beat)).1 = beat := by
  have := T.f.p1
  have := T.f.b1
  have := T.pm
  have := T.bm
  have := T.all
  unfold bdue
  split
  · unfold Gh.due
    rw [if_pos (by omega)]
    show beat - p + p = beat
    omega
  · split
    · unfold Gh.due
      rw [if_neg (by omega), if_pos (by omega)]
      show beat + b - b = beat
      omega
    · unfold Gh.due
      rw [if_neg (by omega), if_neg (by omega)]
      show beat + b - p + p - b = beat
      omega
end
end Gh

namespace Gh
section
variable {size step many p n b k lap g : Int}
def pl (size step b : Int) : Int := b * step % size
theorem pl_in (hs : 0 < size) (x : Int) : 0 ≤ pl size step x ∧ pl size step x < size := ⟨Int.emod_nonneg _ (by omega), Int.emod_lt_of_pos _ hs⟩
theorem pl_raw (x : Int) : x * step % size = pl size (step % size) x := by
  unfold pl
  rw [Int.mul_emod, Int.mul_emod x (step % size), Int.emod_emod]
theorem pl_dvd (x : Int) : size ∣ x * step - pl size step x := by
  unfold pl
  exact Int.dvd_self_sub_emod
theorem pl_inj (L : Lap size step lap g) {x y : Int} (h0 : 0 ≤ x) (h1 : x < lap) (h2 : 0 ≤ y) (h3 : y < lap) (e : pl size step x = pl size step y) : x = y := by
  have d1 := pl_dvd (size := size) (step := step) x
  have d2 := pl_dvd (size := size) (step := step) y
  rw [e] at d1
  have d3 : size ∣ (x - y) * step := by
    have := Int.dvd_sub d1 d2
    rw [show (x * step - pl size step y) - (y * step - pl size step y) = (x - y) * step by grind] at this
    exact this
  have d4 := L.least _ d3
  by_cases c : x = y
  · exact c
  · exfalso
    by_cases c2 : 0 < x - y
    · have := Int.le_of_dvd c2 d4
      omega
    · have d5 : lap ∣ y - x := by
        have := Int.dvd_neg.mpr d4
        rw [show -(x - y) = y - x by omega] at this
        exact this
      have := Int.le_of_dvd (by omega) d5
      omega
/-- a number x with 0 ≤ x < size is the place that it is the rest of -/
theorem pl_eq {x y : Int} (hs : 0 < size) (h : size ∣ x * step - y) (h0 : 0 ≤ y) (h1 : y < size) : pl size step x = y := by
  unfold pl
  obtain ⟨c, hc⟩ := h
  rw [show x * step = y + size * c by omega, Int.add_mul_emod_self_left, Int.emod_eq_of_lt h0 h1]
/-- all beats below many, in the order of their places -/
structure Round (size step many : Int) (row : List Int) : Prop where
  len : (row.length : Int) = many
  bin : ∀ (j : Nat) (x : Int), row[j]? = some x → 0 ≤ x ∧ x < many
  all : ∀ x : Int, 0 ≤ x → x < many → ∃ j : Nat, row[j]? = some x
  up : ∀ (i j : Nat) (x y : Int), i < j → row[i]? = some x → row[j]? = some y → pl size step x < pl size step y
theorem Round.after {row : List Int} (R : Round size step many row) (L : Lap size step lap g) (T : Told size step many p n b k) (hl : many ≤ lap) {i : Nat} {x y : Int} (hx : row[i]? = some x) (hy : row[(i + 1) % row.length]? = some y) : (due p n b k many x).1 = y := by
  have hs := L.pos
  have hlen := R.len
  have hi : i < row.length := (List.getElem?_eq_some_iff.mp hx).1
  have bx := R.bin _ _ hx
  have bY := R.bin _ _ hy
  have m1 : 1 < many := by
    have := T.pm
    have := T.f.p1
    omega
  have hne : x ≠ y := by
    intro e
    subst e
    by_cases c : i + 1 < row.length
    · rw [Nat.mod_eq_of_lt c] at hy
      have := R.up i (i + 1) _ _ (by omega) hx hy
      omega
    · have e : (i + 1) % row.length = 0 := by
        rw [show i + 1 = row.length by omega, Nat.mod_self]
      rw [e] at hy
      have := R.up 0 i _ _ (by omega) hy hx
      omega
  have din := T.due_in bx.1 bx.2
  have dcg := T.due_cg (beat := x)
  have hb := fun c x' => T.none_between (c := c) (x := x') bx.1 bx.2
  generalize (due p n b k many x).1 = r at *
  generalize (due p n b k many x).2 = gap at *
  obtain ⟨j, hj⟩ := R.all r din.1 din.2.1
  have px := pl_in (step := step) hs x
  have py := pl_in (step := step) hs y
  have pr := pl_in (step := step) hs r
  have dx := pl_dvd (size := size) (step := step) x
  have dy := pl_dvd (size := size) (step := step) y
  -- how far y lies on from x
  have gy : gap ≤ (if pl size step x < pl size step y then pl size step y - pl size step x else pl size step y - pl size step x + size) := by
    have hpn : pl size step x ≠ pl size step y := fun e => hne (pl_inj L bx.1 (by omega) bY.1 (by omega) e)
    have d : size ∣ (y - x) * step - (pl size step y - pl size step x) := by
      have := Int.dvd_sub dy dx
      rw [show (y * step - pl size step y) - (x * step - pl size step x) = (y - x) * step - (pl size step y - pl size step x) by grind] at this
      exact this
    split
    · exact hb y _ bY.1 bY.2 d (by omega)
    · refine hb y _ bY.1 bY.2 ?_ (by omega)
      have := Int.dvd_sub d (Int.dvd_refl size)
      rw [show (y - x) * step - (pl size step y - pl size step x) - size = (y - x) * step - (pl size step y - pl size step x + size) by omega] at this
      exact this
  -- the place of r
  have dr : size ∣ r * step - (pl size step x + gap) := by
    have := Int.dvd_add dcg dx
    rw [show (r - x) * step - gap + (x * step - pl size step x) = r * step - (pl size step x + gap) by grind] at this
    exact this
  have jl : j < row.length := (List.getElem?_eq_some_iff.mp hj).1
  by_cases c : i + 1 < row.length
  · rw [Nat.mod_eq_of_lt c] at hy
    have u := R.up i (i + 1) _ _ (by omega) hx hy
    rw [if_pos u] at gy
    have er := pl_eq hs dr (by omega) (by omega)
    have j1 : i < j := by
      apply Decidable.byContradiction
      intro z
      by_cases e : j = i
      · subst e
        have : r = x := Option.some.inj (hj.symm.trans hx)
        subst this
        omega
      · have := R.up j i _ _ (by omega) hj hx
        omega
    have j2 : j = i + 1 := by
      apply Decidable.byContradiction
      intro z
      have := R.up (i + 1) j _ _ (by omega) hy hj
      omega
    subst j2
    exact Option.some.inj (hj.symm.trans hy)
  · have e : (i + 1) % row.length = 0 := by
      rw [show i + 1 = row.length by omega, Nat.mod_self]
    rw [e] at hy
    have u := R.up 0 i _ _ (by omega) hy hx
    rw [if_neg (by omega)] at gy
    have c2 : size ≤ pl size step x + gap := by
      apply Decidable.byContradiction
      intro z
      have er := pl_eq hs dr (by omega) (by omega)
      by_cases e : j = i
      · subst e
        have : r = x := Option.some.inj (hj.symm.trans hx)
        subst this
        omega
      · have := R.up j i _ _ (by omega) hj hx
        omega
    have er : pl size step r = pl size step x + gap - size := by
      refine pl_eq hs ?_ (by omega) (by omega)
      have := Int.dvd_add dr (Int.dvd_refl size)
      rw [show r * step - (pl size step x + gap) + size = r * step - (pl size step x + gap - size) by omega] at this
      exact this
    have j0 : j = 0 := by
      apply Decidable.byContradiction
      intro z
      have := R.up 0 j _ _ (by omega) hy hj
      omega
    subst j0
    exact Option.some.inj (hj.symm.trans hy)
theorem Round.of_sorted {m : Nat} {ps : List (Int × Int)} (L : Lap size step lap g) (hm : (m : Int) ≤ lap) (hp : ps.Perm ((List.range m).map fun (i : Nat) => (pl size step (i : Int), (i : Int)))) (hs : ps.Pairwise fun p q => ¬ (q.1 < p.1 ∨ (q.1 = p.1 ∧ q.2 < p.2))) : Round size step (m : Int) (ps.map (·.2)) := by
  have mem : ∀ p ∈ ps, p.1 = pl size step p.2 ∧ 0 ≤ p.2 ∧ p.2 < (m : Int) := fun p h => by
    have h2 := hp.mem_iff.mp h
    rw [List.mem_map] at h2
    obtain ⟨i, hi, rfl⟩ := h2
    rw [List.mem_range] at hi
    exact ⟨rfl, Int.natCast_nonneg _, by show (i : Int) < (m : Int); omega⟩
  have nd : (ps.map (·.2)).Nodup := by
    have h1 : (((List.range m).map fun (i : Nat) => (pl size step (i : Int), (i : Int))).map (·.2)).Nodup := by
      rw [List.map_map]
      refine List.Pairwise.map _ (fun a b h => ?_) (List.nodup_range (n := m))
      show ((a : Nat) : Int) ≠ (b : Int)
      omega
    exact (hp.map (·.2)).nodup_iff.mpr h1
  refine ⟨by rw [List.length_map, hp.length_eq, List.length_map, List.length_range], fun j x h => ?_, fun x h0 h1 => ?_, fun i j x y hij hx hy => ?_⟩
  · rw [List.getElem?_map] at h
    cases e : ps[j]? with
    | none =>
      rw [e] at h
      cases h
    | some p =>
      rw [e] at h
      cases h
      have := mem p (List.mem_of_getElem? e)
      exact ⟨this.2.1, this.2.2⟩
  · have h2 : (pl size step x, x) ∈ ps := by
      refine hp.mem_iff.mpr (List.mem_map.mpr ⟨x.toNat, List.mem_range.mpr (by omega), ?_⟩)
      rw [show ((x.toNat : Nat) : Int) = x by omega]
    obtain ⟨j, hj⟩ := List.mem_iff_getElem?.mp h2
    exact ⟨j, by rw [List.getElem?_map, hj]; rfl⟩
  · have hxl := (List.getElem?_eq_some_iff.mp hx)
    have hyl := (List.getElem?_eq_some_iff.mp hy)
    obtain ⟨l1, e1⟩ := hxl
    obtain ⟨l2, e2⟩ := hyl
    have k1 : i < ps.length := by simpa using l1
    have k2 : j < ps.length := by simpa using l2
    rw [List.getElem_map] at e1 e2
    have r := List.pairwise_iff_getElem.mp hs i j k1 k2 hij
    have n := List.pairwise_iff_getElem.mp nd i j l1 l2 hij
    rw [List.getElem_map, List.getElem_map] at n
    have m1 := mem ps[i] (List.getElem_mem k1)
    have m2 := mem ps[j] (List.getElem_mem k2)
    have ne : pl size step ps[i].2 ≠ pl size step ps[j].2 := fun e => n (pl_inj L m1.2.1 (by omega) m2.2.1 (by omega) e)
    rw [← e1, ← e2]
    rw [← m1.1, ← m2.1] at ne ⊢
    omega
end
end Gh

namespace Gh
/-! ## tables: widths and how often each comes -/
def getI (es : List (Int × Int)) (k : Int) : Option Int := (es.find? fun e => decide (e.1 = k)).map (·.2)
def putI (es : List (Int × Int)) (k v : Int) : List (Int × Int) := if (es.any fun e => decide (e.1 = k)) = true then es.map (fun e => if e.1 = k then (e.1, v) else e) else es ++ [(k, v)]
structure Has (cnt : Int → Int) (es : List (Int × Int)) : Prop where
  nd : (es.map (·.1)).Nodup
  mem : ∀ k v, (k, v) ∈ es ↔ cnt k = v ∧ 0 < v
structure Tab (cnt : Int → Int) (qs : List (Int × Int)) : Prop where
  up : qs.Pairwise fun p q => p.1 < q.1
  mem : ∀ k v, (k, v) ∈ qs ↔ cnt k = v ∧ 0 < v
theorem getI_mem {es : List (Int × Int)} {k v : Int} (h : getI es k = some v) : (k, v) ∈ es := by
  unfold getI at h
  cases e : es.find? fun e => decide (e.1 = k) with
  | none =>
    rw [e] at h
    cases h
  | some q =>
    rw [e] at h
    have h1 : q.2 = v := Option.some.inj h
    have h2 := List.find?_some e
    have h3 : q.1 = k := of_decide_eq_true h2
    have h4 := List.mem_of_find?_eq_some e
    rw [← h1, ← h3]
    exact h4
theorem getI_none {es : List (Int × Int)} {k : Int} (h : getI es k = none) (v : Int) : (k, v) ∉ es := by
  unfold getI at h
  intro hm
  cases e : es.find? fun e => decide (e.1 = k) with
  | none =>
    have := List.find?_eq_none.mp e _ hm
    simp at this
  | some q =>
    rw [e] at h
    cases h
theorem Has.get {cnt : Int → Int} {es : List (Int × Int)} (A : Has cnt es) (hn : ∀ k, 0 ≤ cnt k) (k : Int) : (getI es k).getD 0 = cnt k := by
  cases e : getI es k with
  | some v => exact ((A.mem k v).mp (getI_mem e)).1.symm
  | none =>
    show (0 : Int) = cnt k
    by_cases c : 0 < cnt k
    · exact absurd ((A.mem k (cnt k)).mpr ⟨rfl, c⟩) (getI_none e _)
    · have := hn k
      omega
theorem Has.put {cnt : Int → Int} {es : List (Int × Int)} (A : Has cnt es) {w v : Int} (hv : 0 < v) : Has (fun k => if k = w then v else cnt k) (putI es w v) := by
  unfold putI
  by_cases c : (es.any fun e => decide (e.1 = w)) = true
  · rw [if_pos c]
    have keys : (es.map fun e => if e.1 = w then (e.1, v) else e).map (·.1) = es.map (·.1) := by
      rw [List.map_map]
      refine List.map_congr_left fun e _ => ?_
      show (if e.1 = w then (e.1, v) else e).1 = e.1
      split <;> rfl
    refine ⟨by rw [keys]; exact A.nd, fun k u => ?_⟩
    rw [List.mem_map]
    constructor
    · rintro ⟨e, he, h⟩
      by_cases c2 : e.1 = w
      · rw [if_pos c2] at h
        cases h
        rw [if_pos c2]
        exact ⟨rfl, hv⟩
      · rw [if_neg c2] at h
        subst h
        rw [if_neg c2]
        exact (A.mem k u).mp he
    · rintro ⟨h1, h2⟩
      by_cases c2 : k = w
      · rw [if_pos c2] at h1
        obtain ⟨e, he, h⟩ := List.any_eq_true.mp c
        have h3 : e.1 = w := of_decide_eq_true h
        refine ⟨e, he, ?_⟩
        rw [if_pos h3, h3, c2, h1]
      · rw [if_neg c2] at h1
        exact ⟨(k, u), (A.mem k u).mpr ⟨h1, h2⟩, if_neg c2⟩
  · rw [if_neg c]
    have hno : ∀ u, (w, u) ∉ es := fun u hu => c (List.any_eq_true.mpr ⟨_, hu, decide_eq_true rfl⟩)
    refine ⟨?_, fun k u => ?_⟩
    · rw [List.map_append, List.nodup_append]
      refine ⟨A.nd, by simp, fun a ha b hb => ?_⟩
      simp at hb
      subst hb
      rw [List.mem_map] at ha
      obtain ⟨e, he, rfl⟩ := ha
      intro z
      exact hno e.2 (by rw [← z]; exact he)
    · rw [List.mem_append]
      constructor
      · rintro (h | h)
        · have h1 := (A.mem k u).mp h
          have hk : k ≠ w := fun z => hno u (by rw [← z]; exact h)
          rw [if_neg hk]
          exact h1
        · simp at h
          obtain ⟨rfl, rfl⟩ := h
          rw [if_pos rfl]
          exact ⟨rfl, hv⟩
      · rintro ⟨h1, h2⟩
        by_cases c2 : k = w
        · rw [if_pos c2] at h1
          right
          rw [c2, h1]
          exact List.mem_singleton.mpr rfl
        · rw [if_neg c2] at h1
          left
          exact (A.mem k u).mpr ⟨h1, h2⟩
theorem Has.nil : Has (fun _ => 0) [] := ⟨List.nodup_nil, fun k v => ⟨fun h => by simp at h, fun h => by omega⟩⟩
theorem Has.sorted {cnt : Int → Int} {es qs : List (Int × Int)} (A : Has cnt es) (hp : qs.Perm es) (hs : qs.Pairwise fun p q => ¬ (q.1 < p.1 ∨ (q.1 = p.1 ∧ q.2 < p.2))) : Tab cnt qs := by
  have nd : (qs.map (·.1)).Nodup := (hp.map (·.1)).nodup_iff.mpr A.nd
  refine ⟨?_, fun k v => (hp.mem_iff).trans (A.mem k v)⟩
  rw [List.pairwise_iff_getElem] at hs ⊢
  have nd2 := List.pairwise_iff_getElem.mp nd
  intro i j hi hj hij
  have h1 := hs i j hi hj hij
  have h2 := nd2 i j (by simpa using hi) (by simpa using hj) hij
  rw [List.getElem_map, List.getElem_map] at h2
  omega
theorem Tab.uniq : ∀ {cnt : Int → Int} {as bs : List (Int × Int)}, Tab cnt as → Tab cnt bs → as = bs
  | cnt, [], [], _, _ => rfl
  | cnt, [], b :: bs, A, B => by
    have h := (B.mem b.1 b.2).mp List.mem_cons_self
    have := (A.mem b.1 b.2).mpr h
    simp at this
  | cnt, a :: as, [], A, B => by
    have h := (A.mem a.1 a.2).mp List.mem_cons_self
    have := (B.mem a.1 a.2).mpr h
    simp at this
  | cnt, a :: as, b :: bs, A, B => by
    have ua := List.pairwise_cons.mp A.up
    have ub := List.pairwise_cons.mp B.up
    have ha := (A.mem a.1 a.2).mp List.mem_cons_self
    have hb := (B.mem b.1 b.2).mp List.mem_cons_self
    have m1 : a ∈ b :: bs := (B.mem a.1 a.2).mpr ha
    have m2 : b ∈ a :: as := (A.mem b.1 b.2).mpr hb
    have e : a = b := by
      rcases List.mem_cons.mp m1 with h | h
      · exact h
      · rcases List.mem_cons.mp m2 with h2 | h2
        · exact h2.symm
        · have := ub.1 a h
          have := ua.1 b h2
          omega
    subst e
    have key : ∀ {xs : List (Int × Int)}, Tab cnt (a :: xs) → Tab (fun k => if k = a.1 then 0 else cnt k) xs := fun {xs} X => by
      have ux := List.pairwise_cons.mp X.up
      refine ⟨ux.2, fun k v => ⟨fun h => ?_, fun h => ?_⟩⟩
      · have h1 := (X.mem k v).mp (List.mem_cons_of_mem _ h)
        have h2 := ux.1 _ h
        rw [if_neg (by show k ≠ a.1; have : a.1 < k := h2; omega)]
        exact h1
      · obtain ⟨h1, h2⟩ := h
        by_cases c : k = a.1
        · rw [if_pos c] at h1
          omega
        · rw [if_neg c] at h1
          rcases List.mem_cons.mp ((X.mem k v).mpr ⟨h1, h2⟩) with h3 | h3
          · exact absurd (by rw [← h3]) c
          · exact h3
    rw [Tab.uniq (key A) (key B)]
/-! ## the gaps of the first many beats, by the four -/
def cntOf (p n b k many w : Int) : Int := (if w = n then many - p else 0) + (if w = k then many - b else 0) + (if w = n + k then p + b - many else 0)
section
variable {size step many p n b k lap g : Int}
theorem Told.cnt_nn (T : Told size step many p n b k) (w : Int) : 0 ≤ cntOf p n b k many w := by
  have := T.pm
  have := T.bm
  have := T.all
  unfold cntOf
  repeat' split
  all_goals omega
/-- what gaps must be: one to three rows -/
structure GoodRows (size many : Int) (qs : List (Int × Int)) : Prop where
  l1 : 1 ≤ qs.length
  l3 : qs.length ≤ 3
  pos : ∀ q ∈ qs, 1 ≤ q.1 ∧ 1 ≤ q.2 ∧ q.1 ≤ 2 * size ∧ q.2 ≤ 2 * many
  up : qs.Pairwise fun p q => p.1 < q.1
  beats : (qs.map (·.2)).sum = many
  width : (qs.map fun q => q.1 * q.2).sum = size
  three : ∀ x y z, qs = [x, y, z] → z.1 = x.1 + y.1
theorem Told.rows (T : Told size step many p n b k) {qs : List (Int × Int)} (A : Tab (cntOf p n b k many) qs) : GoodRows size many qs := by
  have a1 := T.f.p1
  have a2 := T.f.n1
  have a3 := T.f.b1
  have a4 := T.f.k1
  have c1 := T.pm
  have c2 := T.bm
  have c3 := T.all
  have fl := T.f.lt
  have det := T.f.det
  -- the rows, written out
  have fin : ∀ rs : List (Int × Int), Tab (cntOf p n b k many) rs → GoodRows size many rs → GoodRows size many qs := fun rs B G => by
    rw [A.uniq B]
    exact G
  by_cases e : n = k
  · subst e
    have det2 : b * n + p * n = size := det
    by_cases d : p + b = many
    · refine fin [(n, many - p + (many - b))] ⟨by simp, fun k' v => ?_⟩ ⟨by simp, by simp, fun q hq => ?_, by simp, ?_, ?_, fun x y z h => by simp at h⟩
      · unfold cntOf
        simp only [List.mem_singleton, Prod.mk.injEq]
        repeat' split
        all_goals omega
      · simp at hq
        subst hq
        exact ⟨a2, by show 1 ≤ many - p + (many - b); omega, by show n ≤ 2 * size; omega, by show many - p + (many - b) ≤ 2 * many; omega⟩
      · show many - p + (many - b) + 0 = many
        omega
      · show n * (many - p + (many - b)) + 0 = size
        rw [← d] at *
        grind
    · refine fin [(n, many - p + (many - b)), (n + n, p + b - many)] ⟨?_, fun k' v => ?_⟩ ⟨by simp, by simp, fun q hq => ?_, ?_, ?_, ?_, fun x y z h => by simp at h⟩
      · simp only [List.pairwise_cons, List.mem_singleton, forall_eq, List.Pairwise.nil, and_true, List.not_mem_nil, false_implies, implies_true]
        omega
      · unfold cntOf
        simp only [List.mem_cons, List.not_mem_nil, or_false, Prod.mk.injEq]
        repeat' split
        all_goals omega
      · simp at hq
        rcases hq with rfl | rfl
        · exact ⟨a2, by show 1 ≤ many - p + (many - b); omega, by show n ≤ 2 * size; omega, by show many - p + (many - b) ≤ 2 * many; omega⟩
        · exact ⟨by show 1 ≤ n + n; omega, by show 1 ≤ p + b - many; omega, by show n + n ≤ 2 * size; omega, by show p + b - many ≤ 2 * many; omega⟩
      · simp only [List.pairwise_cons, List.mem_singleton, forall_eq, List.Pairwise.nil, and_true, List.not_mem_nil, false_implies, implies_true]
        omega
      · show many - p + (many - b) + (p + b - many + 0) = many
        omega
      · show n * (many - p + (many - b)) + ((n + n) * (p + b - many) + 0) = size
        grind
  · by_cases d : p + b = many
    · by_cases o : n < k
      · refine fin [(n, many - p), (k, many - b)] ⟨?_, fun k' v => ?_⟩ ⟨by simp, by simp, fun q hq => ?_, ?_, ?_, ?_, fun x y z h => by simp at h⟩
        · simp only [List.pairwise_cons, List.mem_singleton, forall_eq, List.Pairwise.nil, and_true, List.not_mem_nil, false_implies, implies_true]
          omega
        · unfold cntOf
          simp only [List.mem_cons, List.not_mem_nil, or_false, Prod.mk.injEq]
          repeat' split
          all_goals omega
        · simp at hq
          rcases hq with rfl | rfl
          · exact ⟨a2, by show 1 ≤ many - p; omega, by show n ≤ 2 * size; omega, by show many - p ≤ 2 * many; omega⟩
          · exact ⟨a4, by show 1 ≤ many - b; omega, by show k ≤ 2 * size; omega, by show many - b ≤ 2 * many; omega⟩
        · simp only [List.pairwise_cons, List.mem_singleton, forall_eq, List.Pairwise.nil, and_true, List.not_mem_nil, false_implies, implies_true]
          omega
        · show many - p + (many - b + 0) = many
          omega
        · show n * (many - p) + (k * (many - b) + 0) = size
          rw [show many - p = b by omega, show many - b = p by omega, Int.mul_comm n, Int.mul_comm k]
          omega
      · refine fin [(k, many - b), (n, many - p)] ⟨?_, fun k' v => ?_⟩ ⟨by simp, by simp, fun q hq => ?_, ?_, ?_, ?_, fun x y z h => by simp at h⟩
        · simp only [List.pairwise_cons, List.mem_singleton, forall_eq, List.Pairwise.nil, and_true, List.not_mem_nil, false_implies, implies_true]
          omega
        · unfold cntOf
          simp only [List.mem_cons, List.not_mem_nil, or_false, Prod.mk.injEq]
          repeat' split
          all_goals omega
        · simp at hq
          rcases hq with rfl | rfl
          · exact ⟨a4, by show 1 ≤ many - b; omega, by show k ≤ 2 * size; omega, by show many - b ≤ 2 * many; omega⟩
          · exact ⟨a2, by show 1 ≤ many - p; omega, by show n ≤ 2 * size; omega, by show many - p ≤ 2 * many; omega⟩
        · simp only [List.pairwise_cons, List.mem_singleton, forall_eq, List.Pairwise.nil, and_true, List.not_mem_nil, false_implies, implies_true]
          omega
        · show many - b + (many - p + 0) = many
          omega
        · show k * (many - b) + (n * (many - p) + 0) = size
          rw [show many - p = b by omega, show many - b = p by omega, Int.mul_comm n, Int.mul_comm k]
          omega
    · by_cases o : n < k
      · refine fin [(n, many - p), (k, many - b), (n + k, p + b - many)] ⟨?_, fun k' v => ?_⟩ ⟨by simp, by simp, fun q hq => ?_, ?_, ?_, ?_, fun x y z h => ?_⟩
        · simp only [List.pairwise_cons, List.mem_cons, List.not_mem_nil, or_false, forall_eq_or_imp, forall_eq, List.Pairwise.nil, and_true, false_implies, implies_true]
          omega
        · unfold cntOf
          simp only [List.mem_cons, List.not_mem_nil, or_false, Prod.mk.injEq]
          repeat' split
          all_goals omega
        · simp at hq
          rcases hq with rfl | rfl | rfl
          · exact ⟨a2, by show 1 ≤ many - p; omega, by show n ≤ 2 * size; omega, by show many - p ≤ 2 * many; omega⟩
          · exact ⟨a4, by show 1 ≤ many - b; omega, by show k ≤ 2 * size; omega, by show many - b ≤ 2 * many; omega⟩
          · exact ⟨by show 1 ≤ n + k; omega, by show 1 ≤ p + b - many; omega, by show n + k ≤ 2 * size; omega, by show p + b - many ≤ 2 * many; omega⟩
        · simp only [List.pairwise_cons, List.mem_cons, List.not_mem_nil, or_false, forall_eq_or_imp, forall_eq, List.Pairwise.nil, and_true, false_implies, implies_true]
          omega
        · show many - p + (many - b + (p + b - many + 0)) = many
          omega
        · show n * (many - p) + (k * (many - b) + ((n + k) * (p + b - many) + 0)) = size
          grind
        · injection h with h1 h2
          injection h2 with h2 h3
          injection h3 with h3 _
          subst h1 h2 h3
          rfl
      · refine fin [(k, many - b), (n, many - p), (n + k, p + b - many)] ⟨?_, fun k' v => ?_⟩ ⟨by simp, by simp, fun q hq => ?_, ?_, ?_, ?_, fun x y z h => ?_⟩
        · simp only [List.pairwise_cons, List.mem_cons, List.not_mem_nil, or_false, forall_eq_or_imp, forall_eq, List.Pairwise.nil, and_true, false_implies, implies_true]
          omega
        · unfold cntOf
          simp only [List.mem_cons, List.not_mem_nil, or_false, Prod.mk.injEq]
          repeat' split
          all_goals omega
        · simp at hq
          rcases hq with rfl | rfl | rfl
          · exact ⟨a4, by show 1 ≤ many - b; omega, by show k ≤ 2 * size; omega, by show many - b ≤ 2 * many; omega⟩
          · exact ⟨a2, by show 1 ≤ many - p; omega, by show n ≤ 2 * size; omega, by show many - p ≤ 2 * many; omega⟩
          · exact ⟨by show 1 ≤ n + k; omega, by show 1 ≤ p + b - many; omega, by show n + k ≤ 2 * size; omega, by show p + b - many ≤ 2 * many; omega⟩
        · simp only [List.pairwise_cons, List.mem_cons, List.not_mem_nil, or_false, forall_eq_or_imp, forall_eq, List.Pairwise.nil, and_true, false_implies, implies_true]
          omega
        · show many - b + (many - p + (p + b - many + 0)) = many
          omega
        · show k * (many - b) + (n * (many - p) + ((n + k) * (p + b - many) + 0)) = size
          grind
        · injection h with h1 h2
          injection h2 with h2 h3
          injection h3 with h3 _
          subst h1 h2 h3
          show n + k = k + n
          omega
end
end Gh

namespace Gh
/-! ## the gaps between all places, counted -/
theorem perm_lift' {α β : Type} (f : β → α) {l1 l2 : List α} (h : l1.Perm l2) : ∀ {l : List β}, l2 = l.map f → ∃ l' : List β, l'.Perm l ∧ l'.map f = l1 := by
  induction h with
  | nil => intro l e; exact ⟨l, List.Perm.refl _, e.symm⟩
  | @cons x t1 t2 _ ih =>
    intro l e
    cases l with
    | nil => cases e
    | cons y r =>
      rw [List.map_cons] at e
      injection e with e1 e2
      obtain ⟨l', p, e3⟩ := ih e2
      exact ⟨y :: l', p.cons y, by rw [List.map_cons, e3, e1]⟩
  | @swap x y t =>
    intro l e
    match l, e with
    | a :: b :: r, e =>
      rw [List.map_cons, List.map_cons] at e
      injection e with e1 e2
      injection e2 with e2 e3
      exact ⟨b :: a :: r, List.Perm.swap a b r, by rw [List.map_cons, List.map_cons, ← e1, ← e2, ← e3]⟩
  | @trans _ _ _ _ _ ih1 ih2 =>
    intro l e
    obtain ⟨l', p, e1⟩ := ih2 e
    obtain ⟨l'', p2, e2⟩ := ih1 e1.symm
    exact ⟨l'', p2.trans p, e2⟩
section
variable {size step many p n b k lap g : Int}
theorem Round.of_places {m : Nat} {ps : List Int} (L : Lap size step lap g) (hm : (m : Int) ≤ lap) (hp : ps.Perm ((List.range m).map fun (i : Nat) => pl size step (i : Int))) (hs : ps.Pairwise (· ≤ ·)) :
    ∃ row : List Int, row.map (pl size step) = ps ∧ row.Perm ((List.range m).map fun (i : Nat) => (i : Int)) ∧ Round size step (m : Int) row := by
  have e0 : ((List.range m).map fun (i : Nat) => pl size step (i : Int)) = ((List.range m).map fun (i : Nat) => (i : Int)).map (pl size step) := by
    rw [List.map_map]
    rfl
  obtain ⟨row, pr, er⟩ := perm_lift' (pl size step) hp e0
  have mem : ∀ x ∈ row, 0 ≤ x ∧ x < (m : Int) := fun x h => by
    have h2 := pr.mem_iff.mp h
    rw [List.mem_map] at h2
    obtain ⟨i, hi, rfl⟩ := h2
    rw [List.mem_range] at hi
    omega
  have nd : row.Nodup := by
    refine pr.nodup_iff.mpr (List.Pairwise.map _ (fun a b h => ?_) (List.nodup_range (n := m)))
    show ((a : Nat) : Int) ≠ (b : Int)
    omega
  refine ⟨row, er, pr, by rw [pr.length_eq, List.length_map, List.length_range], fun j x h => mem x (List.mem_of_getElem? h), fun x h0 h1 => ?_, fun i j x y hij hx hy => ?_⟩
  · have h2 : x ∈ row := pr.mem_iff.mpr (List.mem_map.mpr ⟨x.toNat, List.mem_range.mpr (by omega), by omega⟩)
    exact List.mem_iff_getElem?.mp h2
  · obtain ⟨l1, e1⟩ := List.getElem?_eq_some_iff.mp hx
    obtain ⟨l2, e2⟩ := List.getElem?_eq_some_iff.mp hy
    have n := List.pairwise_iff_getElem.mp nd i j l1 l2 hij
    rw [← er] at hs
    have r := List.pairwise_iff_getElem.mp hs i j (by simpa using l1) (by simpa using l2) hij
    rw [List.getElem_map, List.getElem_map, e1, e2] at r
    rw [e1, e2] at n
    have mx := mem x (List.mem_of_getElem? hx)
    have my := mem y (List.mem_of_getElem? hy)
    have ne : pl size step x ≠ pl size step y := fun e => n (pl_inj L mx.1 (by omega) my.1 (by omega) e)
    omega
/-- the gap behind a beat, by the places -/
theorem Round.gap {row : List Int} (R : Round size step many row) (L : Lap size step lap g) (T : Told size step many p n b k) (hl : many ≤ lap) {i : Nat} {x y : Int} (hx : row[i]? = some x) (hy : row[(i + 1) % row.length]? = some y) :
    (due p n b k many x).2 = if i + 1 < row.length then pl size step y - pl size step x else pl size step y - pl size step x + size := by
  have hs := L.pos
  have ea := R.after L T hl hx hy
  have bx := R.bin _ _ hx
  have bY := R.bin _ _ hy
  have hi : i < row.length := (List.getElem?_eq_some_iff.mp hx).1
  have hlen := R.len
  have m1 : 1 < many := by
    have := T.pm
    have := T.f.p1
    omega
  have din := T.due_in bx.1 bx.2
  have dcg := T.due_cg (beat := x)
  rw [ea] at dcg
  have hb := fun x' => T.none_between (c := y) (x := x') bx.1 bx.2 bY.1 bY.2
  generalize (due p n b k many x).2 = gap at *
  have px := pl_in (step := step) hs x
  have py := pl_in (step := step) hs y
  have dx := pl_dvd (size := size) (step := step) x
  have dy := pl_dvd (size := size) (step := step) y
  have d : size ∣ (y - x) * step - (pl size step y - pl size step x) := by
    have := Int.dvd_sub dy dx
    rw [show (y * step - pl size step y) - (x * step - pl size step x) = (y - x) * step - (pl size step y - pl size step x) by grind] at this
    exact this
  have close : ∀ z : Int, size ∣ (y - x) * step - z → 0 < z → z ≤ size → gap = z := fun z hz z0 z1 => by
    have h1 := hb z hz z0
    have h2 : size ∣ z - gap := by
      have := Int.dvd_sub dcg hz
      rw [show ((y - x) * step - gap) - ((y - x) * step - z) = z - gap by omega] at this
      exact this
    by_cases c : z - gap = 0
    · omega
    · have := Int.le_of_dvd (by omega) h2
      omega
  by_cases c : i + 1 < row.length
  · rw [if_pos c]
    rw [Nat.mod_eq_of_lt c] at hy
    have u := R.up i (i + 1) _ _ (by omega) hx hy
    exact close _ d (by omega) (by omega)
  · rw [if_neg c]
    have e : (i + 1) % row.length = 0 := by
      rw [show i + 1 = row.length by omega, Nat.mod_self]
    rw [e] at hy
    have u := R.up 0 i _ _ (by omega) hy hx
    refine close _ ?_ (by omega) (by omega)
    have := Int.dvd_sub d (Int.dvd_refl size)
    rw [show (y - x) * step - (pl size step y - pl size step x) - size = (y - x) * step - (pl size step y - pl size step x + size) by omega] at this
    exact this
/-- how often a width comes among some -/
def cntIn (ws : List Int) (w : Int) : Int := ((ws.count w : Nat) : Int)
theorem cntIn_snoc (ws : List Int) (x w : Int) : cntIn (ws ++ [x]) w = (if w = x then cntIn ws w + 1 else cntIn ws w) := by
  unfold cntIn
  rw [List.count_append, List.count_singleton]
  by_cases c : w = x
  · subst c
    simp
  · have : (x == w) = false := by simpa using (fun z => c z.symm)
    simp [this, c]
theorem cntIn_perm {ws vs : List Int} (h : ws.Perm vs) (w : Int) : cntIn ws w = cntIn vs w := by
  unfold cntIn
  rw [h.count_eq]
theorem cnt_const (m : Nat) (f : Nat → Int) (c w : Int) (h : ∀ i, i < m → f i = c) : ((((List.range m).map f).count w : Nat) : Int) = if w = c then (m : Int) else 0 := by
  have e : (List.range m).map f = List.replicate m c := by
    apply List.ext_getElem
    · simp
    · intro i h1 h2
      simp only [List.getElem_map, List.getElem_range, List.getElem_replicate]
      exact h i (by simpa using h1)
  rw [e, List.count_replicate]
  by_cases c2 : w = c
  · subst c2
    simp
  · have : (c == w) = false := by simpa using (fun z => c2 z.symm)
    simp [this, c2]
/-- the gaps of all beats, counted, are those of the four -/
theorem Told.cnt_all (T : Told size step many p n b k) (w : Int) : cntIn ((List.range many.toNat).map fun (i : Nat) => (due p n b k many (i : Int)).2) w = cntOf p n b k many w := by
  have a1 := T.f.p1
  have a3 := T.f.b1
  have c1 := T.pm
  have c2 := T.bm
  have c3 := T.all
  obtain ⟨x, hx⟩ : ∃ x : Nat, (x : Int) = many - p := ⟨(many - p).toNat, by omega⟩
  obtain ⟨y, hy⟩ : ∃ y : Nat, (y : Int) = p + b - many := ⟨(p + b - many).toNat, by omega⟩
  obtain ⟨z, hz⟩ : ∃ z : Nat, (z : Int) = many - b := ⟨(many - b).toNat, by omega⟩
  have e : many.toNat = x + y + z := by omega
  unfold cntIn
  rw [e, List.range_add, List.range_add, List.map_append, List.map_append, List.map_map, List.map_map, List.count_append, List.count_append]
  have h1 := cnt_const x (fun (i : Nat) => (due p n b k many (i : Int)).2) n w (fun i hi => by
    unfold due
    rw [if_pos (by omega)])
  have h2 := cnt_const y ((fun (i : Nat) => (due p n b k many (i : Int)).2) ∘ (x + ·)) (n + k) w (fun i hi => by
    show (due p n b k many (((x + i : Nat)) : Int)).2 = n + k
    unfold due
    rw [if_neg (by omega), if_neg (by omega)])
  have h3 := cnt_const z ((fun (i : Nat) => (due p n b k many (i : Int)).2) ∘ (x + y + ·)) k w (fun i hi => by
    show (due p n b k many (((x + y + i : Nat)) : Int)).2 = k
    unfold due
    rw [if_neg (by omega), if_pos (by omega)])
  unfold cntOf
  rw [← hx, ← hy, ← hz]
  omega
/-- the widths as the law reckons them -/
def widthAt (size : Int) (ps : List Int) (i : Nat) : Int := if i = 0 then ps.getD 0 0 - ps.getD (ps.length - 1) 0 + size else ps.getD i 0 - ps.getD (i - 1) 0
theorem Round.widths {m : Nat} {row : List Int} (R : Round size step (m : Int) row) (L : Lap size step lap g) (T : Told size step (m : Int) p n b k) (hl : (m : Int) ≤ lap) (hr : row.Perm ((List.range m).map fun (i : Nat) => (i : Int))) (w : Int) :
    cntIn ((List.range m).map (widthAt size (row.map (pl size step)))) w = cntOf p n b k (m : Int) w := by
  rw [← T.cnt_all w]
  have hlen : row.length = m := by
    have := R.len
    omega
  have m1 : 1 < m := by
    have := T.pm
    have := T.f.p1
    omega
  have hne : row ≠ [] := by
    intro z
    rw [z] at hlen
    simp at hlen
    omega
  -- the beats ahead, one after the other
  have e1 : (List.range m).map (widthAt size (row.map (pl size step))) = (row.getLast hne :: row.dropLast).map fun x => (due p n b k (m : Int) x).2 := by
    apply List.ext_getElem
    · simp
      omega
    · intro i h1 h2
      rw [List.getElem_map, List.getElem_range, List.getElem_map]
      have hi : i < m := by simpa using h1
      unfold widthAt
      have gd : ∀ j : Nat, j < m → ∀ x, row[j]? = some x → (row.map (pl size step)).getD j 0 = pl size step x := fun j hj x hx => by
        rw [List.getD_eq_getElem?_getD, List.getElem?_map, hx]
        rfl
      by_cases c : i = 0
      · subst c
        rw [if_pos rfl]
        have hx : row[m - 1]? = some row[m - 1] := List.getElem?_eq_getElem (by omega)
        have hy : row[0]? = some row[0] := List.getElem?_eq_getElem (by omega)
        have gp := R.gap L T hl hx (y := row[0]) (by
          rw [show m - 1 + 1 = row.length by omega, Nat.mod_self]
          exact hy)
        rw [if_neg (by omega)] at gp
        rw [List.length_map, hlen, gd 0 (by omega) _ hy, gd (m - 1) (by omega) _ hx]
        have e2 : row.getLast hne = row[m - 1] := by
          rw [List.getLast_eq_getElem]
          simp [hlen]
        rw [List.getElem_cons_zero, e2, gp]
      · obtain ⟨j, rfl⟩ : ∃ j, i = j + 1 := ⟨i - 1, by omega⟩
        rw [if_neg c, Nat.add_sub_cancel]
        have hx : row[j]? = some row[j] := List.getElem?_eq_getElem (by omega)
        have hy : row[j + 1]? = some row[j + 1] := List.getElem?_eq_getElem (by omega)
        have gp := R.gap L T hl hx (y := row[j + 1]) (by
          rw [Nat.mod_eq_of_lt (by omega)]
          exact hy)
        rw [if_pos (by omega)] at gp
        rw [gd (j + 1) hi _ hy, gd j (by omega) _ hx, List.getElem_cons_succ, List.getElem_dropLast, gp]
  rw [e1]
  have hp : (row.getLast hne :: row.dropLast).Perm row := by
    have h1 : (row.dropLast ++ [row.getLast hne]).Perm (row.getLast hne :: row.dropLast) := List.perm_append_singleton _ _
    rw [List.dropLast_concat_getLast hne] at h1
    exact h1.symm
  have hp2 := (hp.trans hr).map fun x => (due p n b k (m : Int) x).2
  rw [List.map_map] at hp2
  rw [cntIn_perm hp2]
  rfl
end
end Gh

namespace Gh
theorem Has.congr {cnt cnt' : Int → Int} {es : List (Int × Int)} (A : Has cnt es) (h : ∀ k, cnt k = cnt' k) : Has cnt' es := ⟨A.nd, fun k v => by rw [← h k]; exact A.mem k v⟩
theorem Tab.congr {cnt cnt' : Int → Int} {es : List (Int × Int)} (A : Tab cnt es) (h : ∀ k, cnt k = cnt' k) : Tab cnt' es := ⟨A.up, fun k v => by rw [← h k]; exact A.mem k v⟩
theorem Has.add {cnt : Int → Int} {es : List (Int × Int)} (A : Has cnt es) (hn : ∀ k, 0 ≤ cnt k) (w : Int) {v u : Int} (hv : 0 < v) (hu : u = (getI es w).getD 0 + v) : Has (fun k => if k = w then cnt k + v else cnt k) (putI es w u) := by
  have h1 := A.get hn w
  have h2 := hn w
  subst hu
  refine (A.put (w := w) (v := (getI es w).getD 0 + v) (by omega)).congr fun k => ?_
  by_cases c : k = w
  · rw [if_pos c, if_pos c, h1, c]
  · rw [if_neg c, if_neg c]
section
variable {size step many p n b k lap g : Int}
/-- the table that gaps makes -/
theorem Told.table (T : Told size step many p n b k) {u : Int} (hu : u = (getI [(n, many - p)] k).getD 0 + many - b) :
    (¬ many < p + b → Has (cntOf p n b k many) (putI [(n, many - p)] k u)) ∧ (many < p + b → Has (cntOf p n b k many) (putI (putI [(n, many - p)] k u) (n + k) (p + b - many))) := by
  have a2 := T.f.n1
  have a4 := T.f.k1
  have c1 := T.pm
  have c2 := T.bm
  have c3 := T.all
  have A1 : Has (fun w => if w = n then 0 + (many - p) else 0) [(n, many - p)] := Has.nil.add (fun _ => Int.le_refl _) n (v := many - p) (by omega) (by show many - p = 0 + (many - p); omega)
  have A2 := A1.add (fun w => by split <;> omega) k (v := many - b) (u := u) (by omega) (by omega)
  have nn : ∀ w : Int, 0 ≤ (fun w => if w = k then (fun w => if w = n then 0 + (many - p) else 0) w + (many - b) else (fun w => if w = n then 0 + (many - p) else 0) w) w := fun w => by
    dsimp only
    split <;> split <;> omega
  refine ⟨fun h => A2.congr fun w => ?_, fun h => ?_⟩
  · unfold cntOf
    skip
    repeat' split
    all_goals omega
  · have e0 : (getI (putI [(n, many - p)] k u) (n + k)).getD 0 = 0 := by
      rw [A2.get nn]
      skip
      rw [if_neg (by omega), if_neg (by omega)]
    refine (A2.add nn (n + k) (v := p + b - many) (u := p + b - many) (by omega) (by omega)).congr fun w => ?_
    unfold cntOf
    skip
    repeat' split
    all_goals omega
/-- the rows that the law walks for the four -/
def fourRows (p n b k many : Int) : List (Int × Int) := [(n, many - p), (k, many - b), (n + k, p + b - many)]
def rowStep (es : List (Int × Int)) (q : Int × Int) : List (Int × Int) := if 0 < q.2 then putI es q.1 ((getI es q.1).getD 0 + q.2) else es
theorem rowStep_has {cnt : Int → Int} {es : List (Int × Int)} (A : Has cnt es) (hn : ∀ k, 0 ≤ cnt k) (q : Int × Int) (hq : 0 ≤ q.2) : Has (fun k => if k = q.1 then cnt k + q.2 else cnt k) (rowStep es q) := by
  unfold rowStep
  split
  · exact A.add hn q.1 ‹_› rfl
  · refine A.congr fun k => ?_
    split <;> omega
theorem Told.rows_has (T : Told size step many p n b k) : Has (cntOf p n b k many) ((fourRows p n b k many).foldl rowStep []) := by
  have c1 := T.pm
  have c2 := T.bm
  have c3 := T.all
  have A1 := rowStep_has Has.nil (fun _ => Int.le_refl _) (n, many - p) (by show 0 ≤ many - p; omega)
  have A2 := rowStep_has A1 (fun w => by dsimp only; split <;> omega) (k, many - b) (by show 0 ≤ many - b; omega)
  have A3 := rowStep_has A2 (fun w => by dsimp only; split <;> split <;> omega) (n + k, p + b - many) (by show 0 ≤ p + b - many; omega)
  refine A3.congr fun w => ?_
  unfold cntOf
  dsimp only
  repeat' split
  all_goals omega
theorem rowStep_len (es : List (Int × Int)) (q : Int × Int) (h : ∀ es k v, (putI es k v).length ≤ es.length + 1) : (rowStep es q).length ≤ es.length + 1 := by
  unfold rowStep
  split
  · exact h ..
  · omega
/-- one beat alone -/
theorem one_tab {cnt : Int → Int} {qs : List (Int × Int)} (A : Tab cnt qs) (h : ∀ w, cnt w = if w = size then 1 else 0) : qs = [(size, 1)] := by
  refine A.uniq ⟨by simp, fun k v => ?_⟩
  rw [h k, List.mem_singleton, Prod.mk.injEq]
  split <;> omega
theorem one_good {qs : List (Int × Int)} (hs : 1 ≤ size) (h : qs = [(size, 1)]) : GoodRows size 1 qs := by
  subst h
  refine ⟨by simp, by simp, fun q hq => ?_, by simp, by simp, by simp, fun x y z h => by simp at h⟩
  simp at hq
  subst hq
  exact ⟨hs, Int.le_refl _, by show size ≤ 2 * size; omega, by show (1 : Int) ≤ 2 * 1; decide⟩
end
end Gh

namespace Gh
open PySem PySem.Spec PyProof.Rows L2
/-! ## great numbers -/
theorem lg_of {i : Int} (h : i.natAbs ≤ 10000000000000000000000000000000000000000000000000000000000000000000000000000000000000000000000000000000000000000000000000000000000000000000000000000000000000000000000000000000000000000000000000000000000000000000000000000000000000000000000000000000000000000000000000000000000000000000000000000000000000000000000000000000000000000000000000000000000000000000000000000000000000000000000000000000000000000) : i.natAbs.log2 < 4000000 :=
  Nat.lt_of_lt_of_le (PySem.Flt.log2_lt_of (k := 1400) (by decide) (Nat.lt_of_le_of_lt h (by decide +kernel))) (by decide)
def CMulB (i j : Int) : Prop := i.natAbs.log2 < 4000000 ∧ j.natAbs.log2 < 4000000
theorem CMulB.ok {i j : Int} (h : CMulB i j) : IntMulOk i j := by
  have b : ∀ x : Int, Builtin.Int.intBits x ≤ x.natAbs.log2 + 1 := fun x => by
    unfold Builtin.Int.intBits
    split <;> omega
  have h1 := b i
  have h2 := b j
  have h3 := h.1
  have h4 := h.2
  have e : bitsLine = 134217728 := by decide
  unfold IntMulOk
  intro z
  rw [Bool.and_eq_true] at z
  have z2 := z.2
  unfold Builtin.Int.intTooBig at z2
  have z3 := of_decide_eq_true z2
  rw [e] at z3
  omega
theorem op_mulB {X : Cx} : OpR X (binaryOp .Mult) (rI CMulB fun i j => .int (i * j)) := opI fun _ _ _ _ _ _ _ hc q => mul_int q hc.ok
theorem mulB {i j : Int} (h1 : i.natAbs ≤ 10000000000000000000000000000000000000000000000000000000000000000000000000000000000000000000000000000000000000000000000000000000000000000000000000000000000000000000000000000000000000000000000000000000000000000000000000000000000000000000000000000000000000000000000000000000000000000000000000000000000000000000000000000000000000000000000000000000000000000000000000000000000000000000000000000000000000000) (h2 : j.natAbs ≤ 10000000000000000000000000000000000000000000000000000000000000000000000000000000000000000000000000000000000000000000000000000000000000000000000000000000000000000000000000000000000000000000000000000000000000000000000000000000000000000000000000000000000000000000000000000000000000000000000000000000000000000000000000000000000000000000000000000000000000000000000000000000000000000000000000000000000000000) : CMulB i j := ⟨lg_of h1, lg_of h2⟩
theorem divW {i j : Int} (h0 : 0 < j) (h1 : j ≤ 10000000000000000000000000000000000000000000000000000000000000000000000000000000000000000000000000000000000000000000000000000000000000000000000000000000000000000000000000000000000000000000000000000000000000000000000000000000000000000000000000000000000000000000000000000000000000000000000000000000000000000000000000000000000000000000000000000000000000000000000000000000000000000000000000000000000000000) : CDivW i j :=
  ⟨h0, Nat.lt_of_lt_of_le (PySem.Flt.log2_lt_of (k := 1400) (by decide) (Nat.lt_of_le_of_lt (show j.natAbs ≤ 10000000000000000000000000000000000000000000000000000000000000000000000000000000000000000000000000000000000000000000000000000000000000000000000000000000000000000000000000000000000000000000000000000000000000000000000000000000000000000000000000000000000000000000000000000000000000000000000000000000000000000000000000000000000000000000000000000000000000000000000000000000000000000000000000000000000000000 by omega) (by decide +kernel))) (by decide)⟩
/-! ## constants reckoned -/
section
variable {X : Cx} {a b : Expr} {pos : Pos}
theorem pe_as {e : Expr} {t t' : TE} (h : PE X e t) (w : ∀ σ H Q, t' σ H Q → t σ H Q) : PE X e t' := ⟨fun pins s σ H Q I q => h.run pins s σ H Q I (w σ H Q q)⟩
theorem pe_lneg {i : Int} (ha : PE X a (tC (.int i))) : PE X (.UnaryOp .USub a pos) (tC (.int (-i))) := pe_as (pe_un un_neg ha) fun _ _ _ q => ⟨_, rfl, q⟩
theorem pe_lpow {i j v : Int} (ha : PE X a (tC (.int i))) (hb : PE X b (tC (.int j))) (c : 0 ≤ j ∧ j ≤ 1000000 ∧ i.natAbs < 2 ^ 64) (e : i ^ j.toNat = v) : PE X (.BinOp a .Pow b pos) (tC (.int v)) :=
  pe_as (pe_op op_pow ha hb) fun _ _ _ q => ⟨_, _, rfl, rfl, c, by subst e; exact q⟩
theorem pe_ladd {i j v : Int} (ha : PE X a (tC (.int i))) (hb : PE X b (tC (.int j))) (e : i + j = v) : PE X (.BinOp a .Add b pos) (tC (.int v)) :=
  pe_as (pe_op op_add ha hb) fun _ _ _ q => ⟨_, _, rfl, rfl, by subst e; exact q⟩
theorem pe_lsub {i j v : Int} (ha : PE X a (tC (.int i))) (hb : PE X b (tC (.int j))) (e : i - j = v) : PE X (.BinOp a .Sub b pos) (tC (.int v)) :=
  pe_as (pe_op op_sub ha hb) fun _ _ _ q => ⟨_, _, rfl, rfl, by subst e; exact q⟩
theorem pe_lmul {i j v : Int} (ha : PE X a (tC (.int i))) (hb : PE X b (tC (.int j))) (c : i.natAbs ≤ 1000 ∧ j.natAbs ≤ 10000000000000000000000000000000000000000000000000000000000000000000000000000000000000000000000000000000000000000000000000000000000000000000000000000000000000000000000000000000000000000000000000000000000000000000000000000000000000000000000000000000000000000000000000000000000000000000000000000000000000000000000000000000000000000000000000000000000000000000000000000000000000000000000000000000000000000) (e : i * j = v) : PE X (.BinOp a .Mult b pos) (tC (.int v)) :=
  pe_as (pe_op op_mulB ha hb) fun _ _ _ q => ⟨_, _, rfl, rfl, mulB (Nat.le_trans c.1 (by decide +kernel)) c.2, by subst e; exact q⟩
end
/-! ## readings, a step each -/
section
variable {K : PySem.W.Frag} {nx : L2.St → Hp → Prop} {rt : VK} {bk ct : L2.St → Hp → Prop} {σ : L2.St} {H : Hp} {Q : VK} {QB : Bool → Hp → Prop} {QA : List V → Hp → Prop} {t u : TS} {ta tb te : TE} {tt tu : TT} {tr : TA} {g : TG} {i j : Int} {n : Nat} {v x y : V} {r : R2}
theorem g_seq (h : t ⟨u ⟨nx, rt, bk, ct⟩, rt, bk, ct⟩ σ H) : tSeq t u ⟨nx, rt, bk, ct⟩ σ H := h
theorem g_next (h : nx σ H) : tNext ⟨nx, rt, bk, ct⟩ σ H := h
theorem g_asg (h : te σ H fun x H1 => g x σ H1 nx) : tAsg te g ⟨nx, rt, bk, ct⟩ σ H := h
theorem g_name {R : L2.St → Hp → Prop} (h : R (σ.set n (some v)) H) : gName n v σ H R := h
theorem g_var (e : σ[n]? = some (some v)) (h : Q v H) : tVar n σ H Q := ⟨v, e, h⟩
theorem g_c (h : Q v H) : tC v σ H Q := h
theorem g_op (h : ta σ H fun x H1 => tb σ H1 fun y H2 => r x y H2 Q) : tOp r ta tb σ H Q := h
theorem g_un {ru : V → Hp → VK → Prop} (h : ta σ H fun x H1 => ru x H1 Q) : tUn ru ta σ H Q := h
theorem g_rU {f : Int → V} (h : Q (f i) H) : rU f (.int i) H Q := ⟨_, rfl, h⟩
theorem g_rI0 {f : Int → Int → V} (h : Q (f i j) H) : rI0 f (.int i) (.int j) H Q := ⟨_, _, rfl, rfl, h⟩
theorem g_mul (c : CMulB i j) (h : Q (.int (i * j)) H) : rI CMulB (fun i j => .int (i * j)) (.int i) (.int j) H Q := ⟨_, _, rfl, rfl, c, h⟩
theorem g_div (c : CDivW i j) (h : Q (.int (i / j)) H) : rI CDivW (fun i j => .int (i / j)) (.int i) (.int j) H Q := ⟨_, _, rfl, rfl, c, h⟩
theorem g_mod (c : 0 < j) (h : Q (.int (i % j)) H) : rI (fun _ j => 0 < j) (fun i j => .int (i % j)) (.int i) (.int j) H Q := ⟨_, _, rfl, rfl, c, h⟩
theorem dec_int' : decide (V.int i = V.int j) = decide (i = j) := by
  by_cases h : i = j
  · subst h; simp
  · have h2 : ¬ V.int i = V.int j := fun z => h (V.int.inj z)
    rw [decide_eq_false h, decide_eq_false h2]
theorem g_eqI (h : Q (.bl (decide (i = j))) H) : rEq (.int i) (.int j) H Q := ⟨rfl, by rw [dec_int']; exact h⟩
theorem g_neI (h : Q (.bl (!decide (i = j))) H) : rNe (.int i) (.int j) H Q := ⟨rfl, by rw [dec_int']; exact h⟩
theorem g_ret (h : te σ H rt) : tRet te ⟨nx, rt, bk, ct⟩ σ H := h
theorem g_retN (h : rt .non H) : tRetN ⟨nx, rt, bk, ct⟩ σ H := h
theorem g_drop (h : te σ H fun _ H1 => nx σ H1) : tDrop te ⟨nx, rt, bk, ct⟩ σ H := h
theorem g_ifS (h : tt σ H fun b H1 => if b = true then t ⟨nx, rt, bk, ct⟩ σ H1 else u ⟨nx, rt, bk, ct⟩ σ H1) : tIfS tt t u ⟨nx, rt, bk, ct⟩ σ H := h
theorem g_B (h : te σ H fun x H1 => ∃ c, x = .bl c ∧ QB c H1) : tB te σ H QB := h
theorem g_test (h : te σ H fun x H1 => ∃ c, x = .bl c ∧ QB c H1) : tTest te σ H QB := h
theorem g_bl {b : Bool} {P : Bool → Prop} (h : P b) : ∃ c, V.bl b = V.bl c ∧ P c := ⟨_, rfl, h⟩
theorem g_and (h : tt σ H fun c H1 => if c = true then tu σ H1 QB else QB false H1) : tAnd tt tu σ H QB := h
theorem g_or (h : tt σ H fun c H1 => if c = true then QB true H1 else tu σ H1 QB) : tOr tt tu σ H QB := h
theorem g_not (h : tt σ H fun c H1 => QB (!c) H1) : tNot tt σ H QB := h
theorem g_andV (h : ta σ H fun x H1 => ∃ c, x = .bl c ∧ if c = true then tb σ H1 Q else Q (.bl false) H1) : tAndV ta tb σ H Q := h
theorem g_orV (h : ta σ H fun x H1 => ∃ c, x = .bl c ∧ if c = true then Q (.bl true) H1 else tb σ H1 Q) : tOrV ta tb σ H Q := h
theorem g_notV (h : ta σ H fun x H1 => ∃ c, x = .bl c ∧ Q (.bl (!c)) H1) : tNotV ta σ H Q := h
theorem g_cb {rc : List V → Hp → VK → Prop} (h : tr σ H fun vs H1 => rc vs H1 Q) : tCB rc tr σ H Q := h
theorem g_cons (h : te σ H fun x H1 => tr σ H1 fun xs H2 => QA (x :: xs) H2) : tCons te tr σ H QA := h
theorem g_nil (h : QA [] H) : tNil σ H QA := h
theorem g_call {sp : Sp} {dvs : List V} {E : XK} (h : tr σ H fun vs H1 => sp (vs ++ dvs) H1 Q E) : tCall sp dvs E tr σ H Q := h
theorem g_dec {p A B : Prop} [Decidable p] (h1 : p → A) (h2 : ¬ p → B) : if decide p = true then A else B := ite2 (fun e => h1 (of_decide_eq_true e)) (fun e => h2 fun z => e (decide_eq_true z))
theorem g_ndec {p A B : Prop} [Decidable p] (h1 : ¬ p → A) (h2 : p → B) : if (!decide p) = true then A else B := ite2 (fun e => h1 (of_decide_eq_false (by simpa using e))) (fun e => h2 (by simpa using e))
theorem g_decT {p A B : Prop} [Decidable p] (hp : p) (h : A) : if decide p = true then A else B := by rw [decide_eq_true hp]; exact h
theorem g_decF {p A B : Prop} [Decidable p] (hp : ¬ p) (h : B) : if decide p = true then A else B := by rw [decide_eq_false hp]; exact h
theorem g_nT {A B : Prop} (h : B) : if (!true) = true then A else B := h
theorem g_nF {A B : Prop} (h : A) : if (!false) = true then A else B := h
theorem g_intN {A B : Prop} (h : B) : if decide (V.int i = V.non) = true then A else B := by
  rw [decide_eq_false (fun z => V.noConfusion z)]
  exact h
theorem g_nonN {A B : Prop} (h : A) : if decide (V.non = V.non) = true then A else B := h
theorem g_par {a b : Nat} (h : tr σ H fun vs H1 => ∃ v w, vs = [v, w] ∧ nx ((σ.set a (some v)).set b (some w)) H1) : tPar a b tr ⟨nx, rt, bk, ct⟩ σ H := h
theorem g_two {v w : V} {P : V → V → Prop} (h : P v w) : ∃ v' w', [v, w] = [v', w'] ∧ P v' w' := ⟨_, _, rfl, h⟩
/-- a while by what holds between two turns, with a number that falls -/
theorem g_while (W : Nat → L2.St → Hp → Prop) (m0 : Nat) (h0 : W m0 σ H)
    (hs : ∀ m σ' H', W m σ' H' → tt σ' H' fun b H1 => if b = true then (∃ N : L2.St → Hp → Prop, (∀ σ2 H2, N σ2 H2 → ∃ m', m' < m ∧ W m' σ2 H2) ∧ t ⟨N, rt, nx, N⟩ σ' H1) else nx σ' H1) : tWhile tt t ⟨nx, rt, bk, ct⟩ σ H := ⟨W, ⟨m0, h0⟩, hs⟩
theorem g_body {W : Nat → L2.St → Hp → Prop} {m : Nat} (h : t ⟨fun σ2 H2 => ∃ m', m' < m ∧ W m' σ2 H2, rt, bk, fun σ2 H2 => ∃ m', m' < m ∧ W m' σ2 H2⟩ σ H) :
    ∃ N : L2.St → Hp → Prop, (∀ σ2 H2, N σ2 H2 → ∃ m', m' < m ∧ W m' σ2 H2) ∧ t ⟨N, rt, bk, N⟩ σ H := ⟨_, fun _ _ z => z, h⟩
theorem g_for {wi : TI} (h : wi σ H fun J H1 => ∃ W : Nat → Nat → L2.St → Hp → Prop, (∃ m, W 0 m σ H1) ∧ ∀ i m σ H, W i m σ H →
  (J.stop i H ∧ nx σ H) ∨ (J.go i H ∧ ∃ N : L2.St → Hp → Prop, (∀ σ' H', N σ' H' → ∃ m', m' < m ∧ W (i + 1) m' σ' H') ∧ ∀ x H', J.yld i H x H' → g x σ H' fun σ2 H2 => t ⟨N, rt, nx, N⟩ σ2 H2)) : tFor wi g t ⟨nx, rt, bk, ct⟩ σ H := h
theorem g_iL {R : It → Hp → Prop} (h : te σ H fun x H1 => ∃ a, x = .ref a ∧ (∃ xs, SqL K H1 a xs) ∧ R (Itl K a) H1) : iList K te σ H R := h
theorem g_iT {R : It → Hp → Prop} (h : te σ H fun x H1 => ∃ a, x = .ref a ∧ (∃ xs, SqT K H1 a xs) ∧ R (Itt K a) H1) : iTup K te σ H R := h
theorem g_isi {ty : Value} {n : String} {b : Bool} (h1 : TyX K H v ty) (h2 : PySem.W.kitOne K ty (.type n) = some b) (h : Q (.bl b) H) : rIsi K [v, .ty n] H Q := ⟨v, .ty n, ty, _, b, rfl, .ty n, h1, h2, h⟩
theorem g_sfld {f : Str} (h : te σ H fun y H1 => ta σ H1 fun x H2 => ∃ a C dx fs, x = .ref a ∧ H2 a = some (.ins C dx fs) ∧ Cls K C ∧ NoAttr K C f ∧ fs.length < 1000 ∧ nx σ (upd H2 a (.ins C dx (putF f y fs)))) : sFld K ta te f ⟨nx, rt, bk, ct⟩ σ H := h
theorem g_meth {C : Addr} {m : Str} {sp : Sp} {dvs : List V} {E : XK} (h : ta σ H fun x H1 => ∃ a dx fs, x = .ref a ∧ H1 a = some (.ins C dx fs) ∧ fs.lookup m = none ∧ tr σ H1 fun vs H2 => sp (x :: (vs ++ dvs)) H2 Q E) : tMeth C m sp dvs E ta tr σ H Q := h
theorem g_make {C : Addr} {sp : Sp} {dvs : List V} {E : XK} (h : tr σ H fun vs H1 => ∀ x dx, H1 x = none → H1 dx = none → dx ≠ x → sp (.ref x :: (vs ++ dvs)) (upd (upd H1 dx (.own x)) x (.ins C dx [])) (fun v H2 => v = .non ∧ Q (.ref x) H2) E) : tMake C sp dvs E tr σ H Q := h
theorem g_makeN {C : Addr} {n' m : Nat} {sp : Sp} {gV : List V → List V → List V} {E : XK} {tk : TA} (h : tr σ H fun vs H1 => tk σ H1 fun zs H2 => vs.length = n' ∧ zs.length = m ∧ ∀ x dx, H2 x = none → H2 dx = none → dx ≠ x → sp (gV (.ref x :: vs) zs) (upd (upd H2 dx (.own x)) x (.ins C dx [])) (fun v H3 => v = .non ∧ Q (.ref x) H3) E) : tMakeN C n' m sp gV E tr tk σ H Q := h
theorem g_sl {rs : V → Option Int → Option Int → Hp → VK → Prop} {tl th : TO} (h : te σ H fun x H1 => tl σ H1 fun l H2 => th σ H2 fun u H3 => rs x l u H3 Q) : tSl rs te tl th σ H Q := h
theorem g_part {QO : Option Int → Hp → Prop} (h : te σ H fun x H1 => ∃ i, x = .int i ∧ QO (some i) H1) : tPart te σ H QO := h
theorem g_nopart {QO : Option Int → Hp → Prop} (h : QO none H) : tNoPart σ H QO := h
theorem g_int {i : Int} {P : Int → Prop} (h : P i) : ∃ i', V.int i = V.int i' ∧ P i' := ⟨_, rfl, h⟩
theorem g_int1 {P : Int → Prop} (h : P i) : ∃ i', [V.int i] = [V.int i'] ∧ P i' := ⟨_, rfl, h⟩
theorem g_int2 {P : Int → Int → Prop} (h : P i j) : ∃ i' j', [V.int i, V.int j] = [V.int i', V.int j'] ∧ P i' j' := ⟨_, _, rfl, h⟩
theorem g_slL {a : Addr} {xs : List V} {lo hi : Option Int} (hx : SqL K H a xs) (h : ∀ p, H p = none → Q (.ref p) (upd H p (.lst (cutV xs lo hi)))) : rSlL K (.ref a) lo hi H Q := ⟨a, xs, rfl, hx, h⟩
theorem g_ixL {a : Addr} {xs : List V} (hx : SqL K H a xs) (e : atI xs i = some v) (h : Q v H) : rIxL K (.ref a) (.int i) H Q := ⟨a, xs, i, v, rfl, rfl, hx, e, h⟩
theorem g_ixT {a : Addr} {xs : List V} (hx : SqT K H a xs) (e : atI xs i = some v) (h : Q v H) : rIxT K (.ref a) (.int i) H Q := ⟨a, xs, i, v, rfl, rfl, hx, e, h⟩
theorem g_overL {a : Addr} {xs : List V} (hx : SqL K H a xs) (Pv : Nat → L2.St → Hp → Prop) (h0 : Pv 0 σ H) (hl : ∀ i σ' H', i ≤ xs.length → Pv i σ' H' → SqL K H' a xs)
    (hs : ∀ i x σ' H', xs[i]? = some x → Pv i σ' H' → g x σ' H' fun σ2 H2 => t ⟨Pv (i + 1), rt, nx, Pv (i + 1)⟩ σ2 H2) (hd : ∀ σ' H', Pv xs.length σ' H' → nx σ' H') :
    ∃ a', V.ref a = .ref a' ∧ (∃ xs, SqL K H a' xs) ∧ ∃ W : Nat → Nat → L2.St → Hp → Prop, (∃ m, W 0 m σ H) ∧ ∀ i m σ H, W i m σ H →
      ((Itl K a').stop i H ∧ nx σ H) ∨ ((Itl K a').go i H ∧ ∃ N : L2.St → Hp → Prop, (∀ σ' H', N σ' H' → ∃ m', m' < m ∧ W (i + 1) m' σ' H') ∧ ∀ x H', (Itl K a').yld i H x H' → g x σ H' fun σ2 H2 => t ⟨N, rt, nx, N⟩ σ2 H2) :=
  ⟨a, rfl, ⟨xs, hx⟩, for_list (D := ⟨nx, rt, fun _ _ => False, fun _ _ => False⟩) Pv h0 hl hs hd⟩
theorem g_overT {a : Addr} {xs : List V} (hx : SqT K H a xs) (Pv : Nat → L2.St → Hp → Prop) (h0 : Pv 0 σ H) (hl : ∀ i σ' H', i ≤ xs.length → Pv i σ' H' → SqT K H' a xs)
    (hs : ∀ i x σ' H', xs[i]? = some x → Pv i σ' H' → g x σ' H' fun σ2 H2 => t ⟨Pv (i + 1), rt, nx, Pv (i + 1)⟩ σ2 H2) (hd : ∀ σ' H', Pv xs.length σ' H' → nx σ' H') :
    ∃ a', V.ref a = .ref a' ∧ (∃ xs, SqT K H a' xs) ∧ ∃ W : Nat → Nat → L2.St → Hp → Prop, (∃ m, W 0 m σ H) ∧ ∀ i m σ H, W i m σ H →
      ((Itt K a').stop i H ∧ nx σ H) ∨ ((Itt K a').go i H ∧ ∃ N : L2.St → Hp → Prop, (∀ σ' H', N σ' H' → ∃ m', m' < m ∧ W (i + 1) m' σ' H') ∧ ∀ x H', (Itt K a').yld i H x H' → g x σ H' fun σ2 H2 => t ⟨N, rt, nx, N⟩ σ2 H2) :=
  ⟨a, rfl, ⟨xs, hx⟩, for_tup (D := ⟨nx, rt, fun _ _ => False, fun _ _ => False⟩) Pv h0 hl hs hd⟩
theorem g_cut {Mid : L2.St → Hp → Prop} (h : t ⟨Mid, rt, bk, ct⟩ σ H) (k : ∀ σ' H', Mid σ' H' → u ⟨nx, rt, bk, ct⟩ σ' H') : Evl.tCut t u ⟨nx, rt, bk, ct⟩ σ H := ⟨Mid, h, k⟩
theorem g_gtup {a : Addr} {xs : List V} {tgs : TGs} {R : L2.St → Hp → Prop} (h : SqT K H a xs) (hl : xs.length = n) (k : tgs xs σ H R) : gTup K n tgs (.ref a) σ H R := ⟨a, xs, rfl, h, hl, k⟩
theorem g_glst {a : Addr} {xs : List V} {tgs : TGs} {R : L2.St → Hp → Prop} (h : SqL K H a xs) (hl : xs.length = n) (k : tgs xs σ H R) : gLst K n tgs (.ref a) σ H R := ⟨a, xs, rfl, h, hl, k⟩
theorem g_gcons {tgs : TGs} {xs : List V} {R : L2.St → Hp → Prop} (h : g v σ H fun σ' H' => tgs xs σ' H' R) : gCons g tgs (v :: xs) σ H R := ⟨v, xs, rfl, h⟩
theorem g_gnil {R : L2.St → Hp → Prop} (h : R σ H) : gNil [] σ H R := ⟨rfl, h⟩
theorem g_iR1 {tr : TA} {R : It → Hp → Prop} (h : tr σ H fun vs H1 => ∃ j : Int, vs = [.int j] ∧ -(2 ^ 62) ≤ j ∧ j < 2 ^ 62 ∧ R (Itr 0 j.toNat) H1) : iRng1 tr σ H R := h
theorem g_iR2 {tr : TA} {R : It → Hp → Prop} (h : tr σ H fun vs H1 => ∃ i j : Int, vs = [.int i, .int j] ∧ (-(2 ^ 62) ≤ i ∧ i < 2 ^ 62 ∧ -(2 ^ 62) ≤ j ∧ j < 2 ^ 62) ∧ R (Itr i (j - i).toNat) H1) : iRng2 tr σ H R := h
theorem g_overR {lo : Int} {m : Nat} (Pv : Nat → L2.St → Hp → Prop) (h0 : Pv 0 σ H) (hs : ∀ i σ' H', i < m → Pv i σ' H' → g (.int (lo + (i : Int))) σ' H' fun σ2 H2 => t ⟨Pv (i + 1), rt, nx, Pv (i + 1)⟩ σ2 H2) (hd : ∀ σ' H', Pv m σ' H' → nx σ' H') :
    ∃ W : Nat → Nat → L2.St → Hp → Prop, (∃ m, W 0 m σ H) ∧ ∀ i m' σ H, W i m' σ H →
      ((Itr lo m).stop i H ∧ nx σ H) ∨ ((Itr lo m).go i H ∧ ∃ N : L2.St → Hp → Prop, (∀ σ' H', N σ' H' → ∃ m2, m2 < m' ∧ W (i + 1) m2 σ' H') ∧ ∀ x H', (Itr lo m).yld i H x H' → g x σ H' fun σ2 H2 => t ⟨N, rt, nx, N⟩ σ2 H2) :=
  for_range (D := ⟨nx, rt, fun _ _ => False, fun _ _ => False⟩) Pv h0 hs hd
theorem g_sum {a : Addr} {ns : List Int} (hx : SqL K H a (ns.map V.int)) (h : Q (.int ns.sum) H) : rSum K [.ref a] H Q := ⟨a, ns, rfl, hx, h⟩
theorem g_isN {B : Prop} (h : B) : V.non = V.non ∧ B := ⟨rfl, h⟩
theorem g_dnew (h : ∀ p, H p = none → Q (.ref p) (upd H p (.dK []))) : tDNewK σ H Q := h
theorem g_list_of {a : Addr} {xs : List V} (hx : SqL K H a xs) (h : ∀ l, H l = none → Q (.ref l) (upd H l (.lst xs))) : ∃ p ys, [V.ref a] = [V.ref p] ∧ (SqL K H p ys ∨ SqT K H p ys) ∧ ∀ l, H l = none → Q (.ref l) (upd H l (.lst ys)) := ⟨a, xs, rfl, .inl hx, h⟩
theorem g_gsub {to ti : TE} {ts : TSet} {R : L2.St → Hp → Prop} (h : to σ H fun o H1 => ti σ H1 fun i H2 => ts o i v H2 fun H3 => R σ H3) : gSub to ti ts v σ H R := h
theorem g_bm {T : String} {rm : V → List V → Hp → VK → Prop} (h : ta σ H fun x H1 => tyV K T x H1 ∧ tr σ H1 fun xs H2 => rm x xs H2 Q) : tBM K T rm ta tr σ H Q := h
theorem g_ty {a : Addr} {xs : List V} {P : Prop} (hx : H a = some (.lst xs)) (h : P) : tyV K "list" (.ref a) H ∧ P := ⟨.inl ⟨rfl, _, SqL.of hx⟩, h⟩
theorem g_app {a : Addr} {xs : List V} (hx : H a = some (.lst xs)) (hl : xs.length ≤ 1000) (h : Q .non (upd H a (.lst (xs ++ [y])))) : rAppend (.ref a) [y] H Q := ⟨a, xs, y, rfl, rfl, hx, small1000 hl, h⟩
theorem g_lenT {a : Addr} {xs : List V} (hx : SqT K H a xs) (h : Q (.int xs.length) H) : ∃ p ys, [V.ref a] = [V.ref p] ∧ (SqL K H p ys ∨ SqT K H p ys) ∧ Q (.int ys.length) H := ⟨a, xs, rfl, .inr hx, h⟩
theorem g_tup {tr : TA} (h : tr σ H fun xs H1 => xs.length ≤ sizeLine ∧ ∀ p, H1 p = none → Q (.ref p) (upd H1 p (.tup xs))) : tTup tr σ H Q := h
theorem g_lst {tr : TA} (h : tr σ H fun xs H1 => xs.length ≤ sizeLine ∧ ∀ p, H1 p = none → Q (.ref p) (upd H1 p (.lst xs))) : tLst tr σ H Q := h
theorem g_len {xs : List V} {P : Prop} (hl : xs.length ≤ 1000) (h : P) : xs.length ≤ sizeLine ∧ P := ⟨Nat.le_of_lt (small1000 hl), h⟩
theorem g_fldV {a C dx : Addr} {fs : List (Str × V)} {f : Str} (hv : σ[n]? = some (some (.ref a))) (h1 : H a = some (.ins C dx fs)) (h2 : Cls K C) (h3 : NoAttr K C f) (h4 : fs.lookup f = some v) (h : Q v H) : tFld K (tVar n) f σ H Q := ⟨.ref a, hv, a, C, dx, fs, v, rfl, h1, h2, h3, h4, h⟩
end
/-! ## what is a whole number -/
/-- b: whether v is an int and no bool -/
def Kind (K : PySem.W.Frag) (H : Hp) (v : V) (b : Bool) : Prop := ∃ t b1 b2, TyX K H v t ∧ PySem.W.kitOne K t (.type "int") = some b1 ∧ PySem.W.kitOne K t (.type "bool") = some b2 ∧ b = (b1 && !b2)
section
variable {K : PySem.W.Frag} {H : Hp}
theorem kind_int {i : Int} : Kind K H (.int i) true := ⟨_, true, false, .base (.int i), kit_ty (by decide +kernel), kit_ty (by decide +kernel), rfl⟩
theorem kind_bl {b : Bool} : Kind K H (.bl b) false := ⟨_, true, true, .base (.bl b), kit_ty (by decide +kernel), kit_ty (by decide +kernel), rfl⟩
theorem kind_non : Kind K H .non false := ⟨_, false, false, .base .non, kit_ty (by decide +kernel), kit_ty (by decide +kernel), rfl⟩
theorem kind_str {x : Str} : Kind K H (.str x) false := ⟨_, false, false, .base (.str x), kit_ty (by decide +kernel), kit_ty (by decide +kernel), rfl⟩
theorem kind_lst {p : Addr} {xs : List V} (h : H p = some (.lst xs)) : Kind K H (.ref p) false := ⟨_, false, false, .base (.lst h), kit_ty (by decide +kernel), kit_ty (by decide +kernel), rfl⟩
theorem kind_tup {p : Addr} {xs : List V} (h : H p = some (.tup xs)) : Kind K H (.ref p) false := ⟨_, false, false, .base (.tup h), kit_ty (by decide +kernel), kit_ty (by decide +kernel), rfl⟩
theorem kind_dK {p : Addr} {kvs : List (Key × V)} (h : H p = some (.dK kvs)) : Kind K H (.ref p) false := ⟨_, false, false, .base (.dK h), kit_ty (by decide +kernel), kit_ty (by decide +kernel), rfl⟩
end
/-! ## heaps, kinds -/
theorem same_upd {H : Hp} {p : Addr} {o : HO} (h : H p = none) : Same H (upd H p o) := fun b x e => by
  rw [upd_ne (ne_of_none e h)]
  exact e
theorem Rd.same {H H' : Hp} {a : Addr} {u : HO} (e : Same H H') (h : Rd H a u) : Rd H' a u := h.elim (fun z => .inl (e _ _ z)) fun ⟨o, z⟩ => .inr ⟨o, e _ _ z⟩
theorem Same.tup {K : PySem.W.Frag} {H H' : Hp} {a : Addr} {xs : List V} (e : Same H H') (h : SqT K H a xs) : SqT K H' a xs := h.elim (fun z => .inl (Rd.same e z)) .inr
theorem TyOf.same {K : PySem.W.Frag} {H H' : Hp} (e : Same H H') {v : V} {t : Value} (h : TyOf K H v t) : TyOf K H' v t := by
  cases h with
  | non => exact .non
  | bl x => exact .bl x
  | int i => exact .int i
  | str x => exact .str x
  | flt x => exact .flt x
  | lst z => exact .lst (e _ _ z)
  | frz z => exact .frz (e _ _ z)
  | tup z => exact .tup (e _ _ z)
  | dK z => exact .dK (e _ _ z)
  | dT z => exact .dT (e _ _ z)
  | ins z a b c d f => exact .ins (e _ _ z) a b c d f
theorem TyX.same {K : PySem.W.Frag} {H H' : Hp} (e : Same H H') {v : V} {t : Value} (h : TyX K H v t) : TyX K H' v t := by
  cases h with
  | base z => exact .base (TyOf.same e z)
  | byt b => exact .byt b
  | set z => exact .set (e _ _ z)
  | kList a b => exact .kList a b
  | kTuple a b => exact .kTuple a b
  | kDict a b => exact .kDict a b
  | fTuple z => exact .fTuple (e _ _ z)
  | fDict z => exact .fDict (e _ _ z)
theorem Kind.same {K : PySem.W.Frag} {H H' : Hp} (e : Same H H') {v : V} {b : Bool} (h : Kind K H v b) : Kind K H' v b := by
  obtain ⟨t, b1, b2, ty, r⟩ := h
  exact ⟨t, b1, b2, TyX.same e ty, r⟩
/-- what is no whole number from lo to hi -/
def Bad (K : PySem.W.Frag) (H : Hp) (v : V) (lo hi : Int) : Prop := Kind K H v false ∨ ∃ i, v = .int i ∧ ¬ (lo ≤ i ∧ i ≤ hi)
theorem Bad.same {K : PySem.W.Frag} {H H' : Hp} (e : Same H H') {v : V} {lo hi : Int} (h : Bad K H v lo hi) : Bad K H' v lo hi := h.elim (fun z => .inl (Kind.same e z)) .inr
/-- a list of our own is written: nothing changes its kind -/
theorem TyOf.put {K : PySem.W.Frag} {H : Hp} {p : Addr} {xs ys : List V} (hp : H p = some (.lst xs)) {v : V} {t : Value} (h : TyOf K H v t) : TyOf K (upd H p (.lst ys)) v t := by
  have go : ∀ {a : Addr} {o : HO}, H a = some o → (∀ zs, o ≠ .lst zs) → (upd H p (.lst ys)) a = some o := fun {a o} e ne => by
    have hne : a ≠ p := fun z => by
      subst z
      rw [hp] at e
      exact ne xs (Option.some.inj e).symm
    rw [upd_ne hne]
    exact e
  cases h with
  | non => exact .non
  | bl x => exact .bl x
  | int i => exact .int i
  | str x => exact .str x
  | flt x => exact .flt x
  | @lst a zs z =>
    by_cases e : a = p
    · subst e
      exact .lst upd_same
    · exact .lst (by rw [upd_ne e]; exact z)
  | frz z => exact .frz (go z (fun _ q => HO.noConfusion q))
  | tup z => exact .tup (go z (fun _ q => HO.noConfusion q))
  | dK z => exact .dK (go z (fun _ q => HO.noConfusion q))
  | dT z => exact .dT (go z (fun _ q => HO.noConfusion q))
  | ins z a b c d f => exact .ins (go z (fun _ q => HO.noConfusion q)) a b c d f
theorem TyX.put {K : PySem.W.Frag} {H : Hp} {p : Addr} {xs ys : List V} (hp : H p = some (.lst xs)) {v : V} {t : Value} (h : TyX K H v t) : TyX K (upd H p (.lst ys)) v t := by
  have go : ∀ {a : Addr} {o : HO}, H a = some o → (∀ zs, o ≠ .lst zs) → (upd H p (.lst ys)) a = some o := fun {a o} e ne => by
    have hne : a ≠ p := fun z => by
      subst z
      rw [hp] at e
      exact ne xs (Option.some.inj e).symm
    rw [upd_ne hne]
    exact e
  cases h with
  | base z => exact .base (TyOf.put hp z)
  | byt b => exact .byt b
  | set z => exact .set (go z (fun _ q => HO.noConfusion q))
  | kList a b => exact .kList a b
  | kTuple a b => exact .kTuple a b
  | kDict a b => exact .kDict a b
  | fTuple z => exact .fTuple (go z (fun _ q => HO.noConfusion q))
  | fDict z => exact .fDict (go z (fun _ q => HO.noConfusion q))
theorem Bad.put {K : PySem.W.Frag} {H : Hp} {p : Addr} {xs ys : List V} (hp : H p = some (.lst xs)) {v : V} {lo hi : Int} (h : Bad K H v lo hi) : Bad K (upd H p (.lst ys)) v lo hi := by
  rcases h with ⟨t, b1, b2, ty, r⟩ | h
  · exact .inl ⟨t, b1, b2, TyX.put hp ty, r⟩
  · exact .inr h
theorem same_mut {H H' : Hp} {p : Addr} {o : HO} (h : H p = none) (e : Same H H') : Same H (upd H' p o) := fun b x z => by
  rw [upd_ne (ne_of_none z h)]
  exact e _ _ z
/-! ## cells -/
def cellAt (ns : List Int) (k : Int) : Int := (ns[k.toNat]?).getD 0
def BitsOk (ns : List Int) : Prop := ∀ z ∈ ns, Builtin.Int.intBits z ≤ 1048576
theorem cell_log {ns : List Int} (h : BitsOk ns) (k : Int) : (cellAt ns k).natAbs.log2 ≤ 1048576 := by
  unfold cellAt
  cases e : ns[k.toNat]? with
  | none => exact Nat.zero_le _
  | some z =>
    have hz := h z (List.mem_of_getElem? e)
    show z.natAbs.log2 ≤ 1048576
    unfold Builtin.Int.intBits at hz
    by_cases c : z = 0
    · subst c
      exact Nat.zero_le _
    · rw [if_neg (by simpa using c)] at hz
      omega
theorem cell_mul {ns : List Int} (h : BitsOk ns) {k j : Int} (hj : j.natAbs ≤ 10000000000000000000000000000000000000000000000000000000000000000000000000000000000000000000000000000000000000000000000000000000000000000000000000000000000000000000000000000000000000000000000000000000000000000000000000000000000000000000000000000000000000000000000000000000000000000000000000000000000000000000000000000000000000000000000000000000000000000000000000000000000000000000000000000000000000000) : CMulB (cellAt ns k) j := ⟨Nat.lt_of_le_of_lt (cell_log h k) (by decide), lg_of hj⟩
theorem pickV {xs : List V} {i : Int} (h0 : 0 ≤ i) (h1 : i < xs.length) : ∃ v ∈ xs, atI xs i = some v := by
  obtain ⟨k, rfl⟩ : ∃ k : Nat, i = (k : Int) := ⟨i.toNat, by omega⟩
  have hl : k < xs.length := by omega
  exact ⟨xs[k], List.getElem_mem hl, atI_nat (List.getElem?_eq_getElem hl)⟩
theorem pick {xs : List Int} {i : Int} (h0 : 0 ≤ i) (h1 : i < xs.length) : ∃ m ∈ xs, atI (xs.map V.int) i = some (.int m) := by
  obtain ⟨k, rfl⟩ : ∃ k : Nat, i = (k : Int) := ⟨i.toNat, by omega⟩
  have hl : k < xs.length := by omega
  exact ⟨xs[k], List.getElem_mem hl, atI_nat (by rw [List.getElem?_map, List.getElem?_eq_getElem hl]; rfl)⟩
def cutN (ns : List Int) (lo hi : Option Int) : List Int := (ns.drop (HT.sIx ns.length 0 lo)).take (HT.sIx ns.length ns.length hi - HT.sIx ns.length 0 lo)
theorem cut_map (ns : List Int) (lo hi : Option Int) : cutV (ns.map V.int) lo hi = (cutN ns lo hi).map V.int := by
  unfold cutV cutN
  rw [List.length_map, List.map_take, List.map_drop]
theorem cut_len (ns : List Int) (lo hi : Option Int) : (cutN ns lo hi).length ≤ ns.length := by
  unfold cutN
  rw [List.length_take, List.length_drop]
  omega
theorem cut_sub {ns : List Int} {lo hi : Option Int} {z : Int} (h : z ∈ cutN ns lo hi) : z ∈ ns := List.mem_of_mem_drop (List.mem_of_mem_take h)
theorem map_at {α : Type} {f : α → V} {xs : List α} {i : Nat} {x : V} (h : (xs.map f)[i]? = some x) : ∃ z, xs[i]? = some z ∧ x = f z := by
  rw [List.getElem?_map] at h
  cases e : xs[i]? with
  | none =>
    rw [e] at h
    cases h
  | some z =>
    rw [e] at h
    exact ⟨z, rfl, (Option.some.inj h).symm⟩
/-! ## list comprehensions over ints -/
/-- what a comprehension asks of what it walks -/
def LcP (J : It) (g : TG) (tt : TT) (te : TE) (vs : List Nat) (σ : L2.St) (H1 : Hp) (Q : VK) : Prop := ∀ D, H1 D = none → ∃ W : Nat → Nat → Hp → Prop, (∃ m, W 0 m (upd H1 D (.lst []))) ∧ ∀ i m H, W i m H →
  (J.stop i H ∧ Q (.ref D) H) ∨ (J.go i H ∧ ∃ Nx : Hp → Prop, (∀ H', Nx H' → ∃ m', m' < m ∧ W (i + 1) m' H') ∧ ∀ x H', J.yld i H x H' → g x (wipe σ vs) H' fun σ2 H2 => wipe σ2 vs = wipe σ vs ∧ tt σ2 H2 fun b H3 =>
    if b = true then te σ2 H3 fun y H4 => ∃ acc, H4 D = some (.lst acc) ∧ acc.length < sizeLine ∧ Nx (upd H4 D (.lst (acc ++ [y]))) else Nx H3)
theorem g_lc {wi : TI} {g : TG} {tt : TT} {te : TE} {vs : List Nat} {σ : L2.St} {H : Hp} {Q : VK} (h : wi σ H fun J H1 => LcP J g tt te vs σ H1 Q) : tLc wi g tt te vs σ H Q := h
theorem take_succ' {α : Type} {l : List α} {i : Nat} {x : α} (h : l[i]? = some x) : l.take (i + 1) = l.take i ++ [x] := by
  rw [List.take_add_one, h]
  rfl
/-- [f(x) for x in a list of ints] -/
theorem g_compMap {K : PySem.W.Frag} {te : TE} {vs : List Nat} {σ : L2.St} {H : Hp} {Q : VK} {a : Addr} {j : Nat} {ns : List Int} (f : Int → Int) (hx : SqL K H a (ns.map V.int)) (hl : ns.length ≤ 1000) (hw : ∀ x, wipe ((wipe σ vs).set j (some x)) vs = wipe σ vs)
    (he : ∀ z ∈ ns, ∀ (H' : Hp) (Q' : VK), Same H H' → (∀ H4, Same H' H4 → Q' (.int (f z)) H4) → te ((wipe σ vs).set j (some (.int z))) H' Q')
    (h : ∀ D, H D = none → ∀ H', Same H H' → H' D = some (.lst ((ns.map f).map V.int)) → Q (.ref D) H') :
    ∃ a', V.ref a = .ref a' ∧ (∃ xs, SqL K H a' xs) ∧ LcP (Itl K a') (gName j) tYes te vs σ H Q := by
  refine ⟨a, rfl, ⟨_, hx⟩, fun D hD => ?_⟩
  have s0 : Same H (upd H D (.lst [])) := same_upd hD
  refine lc_list (K := K) (xs := ns.map V.int) (Qd := Q (.ref D)) (fun i H' => Same H H' ∧ H' D = some (.lst (((ns.take i).map f).map V.int))) ⟨s0, upd_same⟩ (fun i H' _ p => p.1.seq hx) (fun i x H' hi p => ?_) (fun H' p => ?_)
  · rw [List.getElem?_map] at hi
    cases e : ns[i]? with
    | none =>
      rw [e] at hi
      cases hi
    | some z =>
      rw [e] at hi
      cases hi
      refine ⟨hw _, ?_⟩
      unfold tYes
      dsimp only
      rw [if_pos rfl]
      refine he z (List.mem_of_getElem? e) H' _ p.1 (fun H4 s4 => ?_)
      refine ⟨_, s4 _ _ p.2, ?_, fun b o eb => ?_, ?_⟩
      · rw [List.length_map, List.length_map, List.length_take]
        exact small1000 (Nat.le_trans (Nat.min_le_right _ _) hl)
      · rw [upd_ne (ne_of_none eb hD)]
        exact s4 _ _ (p.1 _ _ eb)
      · rw [upd_same, take_succ' e, List.map_append, List.map_append]
        rfl
  · rw [List.length_map] at p
    rw [List.take_length] at p
    exact h D hD H' p.1 p.2
theorem g_compRange {te : TE} {vs : List Nat} {σ : L2.St} {H : Hp} {Q : VK} {j m : Nat} (f : Int → Int) (hl : m ≤ 1000) (hw : ∀ x, wipe ((wipe σ vs).set j (some x)) vs = wipe σ vs)
    (he : ∀ (i : Nat), i < m → ∀ (H' : Hp) (Q' : VK), Same H H' → (∀ H4, Same H' H4 → Q' (.int (f i)) H4) → te ((wipe σ vs).set j (some (.int (0 + (i : Int))))) H' Q')
    (h : ∀ D, H D = none → ∀ H', Same H H' → H' D = some (.lst (((List.range m).map fun (i : Nat) => f (i : Int)).map V.int)) → Q (.ref D) H') :
    LcP (Itr 0 m) (gName j) tYes te vs σ H Q := by
  intro D hD
  have s0 : Same H (upd H D (.lst [])) := same_upd hD
  refine lc_range (lo := 0) (n := m) (Qd := Q (.ref D)) (fun i H' => Same H H' ∧ H' D = some (.lst (((List.range i).map fun (i : Nat) => f (i : Int)).map V.int))) ⟨s0, upd_same⟩ (fun i H' hi p => ?_) (fun H' p => h D hD H' p.1 p.2)
  refine ⟨hw _, ?_⟩
  unfold tYes
  dsimp only
  rw [if_pos rfl]
  refine he i hi H' _ p.1 (fun H4 s4 => ?_)
  refine ⟨_, s4 _ _ p.2, ?_, fun b o eb => ?_, ?_⟩
  · rw [List.length_map, List.length_map, List.length_range]
    exact small1000 (by omega)
  · rw [upd_ne (ne_of_none eb hD)]
    exact s4 _ _ (p.1 _ _ eb)
  · rw [upd_same, List.range_succ, List.map_append, List.map_append]
    rfl
/-- [f(x) for x in a list] -/
theorem g_compV {K : PySem.W.Frag} {te : TE} {vs : List Nat} {σ : L2.St} {H : Hp} {Q : VK} {a : Addr} {j : Nat} {xs : List V} (f : V → V) (hx : SqL K H a xs) (hl : xs.length ≤ 1000) (hw : ∀ x, wipe ((wipe σ vs).set j (some x)) vs = wipe σ vs)
    (he : ∀ z ∈ xs, ∀ (H' : Hp) (Q' : VK), Same H H' → (∀ H4, Same H' H4 → Q' (f z) H4) → te ((wipe σ vs).set j (some z)) H' Q')
    (h : ∀ D, H D = none → ∀ H', Same H H' → H' D = some (.lst (xs.map f)) → Q (.ref D) H') :
    ∃ a', V.ref a = .ref a' ∧ (∃ xs, SqL K H a' xs) ∧ LcP (Itl K a') (gName j) tYes te vs σ H Q := by
  refine ⟨a, rfl, ⟨_, hx⟩, fun D hD => ?_⟩
  refine lc_list (K := K) (xs := xs) (Qd := Q (.ref D)) (fun i H' => Same H H' ∧ H' D = some (.lst ((xs.take i).map f))) ⟨same_upd hD, upd_same⟩ (fun i H' _ p => p.1.seq hx) (fun i x H' hi p => ?_) (fun H' p => ?_)
  · refine ⟨hw _, ?_⟩
    unfold tYes
    dsimp only
    rw [if_pos rfl]
    refine he x (List.mem_of_getElem? hi) H' _ p.1 (fun H4 s4 => ?_)
    refine ⟨_, s4 _ _ p.2, ?_, same_mut hD (p.1.trans s4), ?_⟩
    · rw [List.length_map, List.length_take]
      exact small1000 (Nat.le_trans (Nat.min_le_right _ _) hl)
    · rw [upd_same, take_succ' hi, List.map_append]
      rfl
  · rw [List.take_length] at p
    exact h D hD H' p.1 p.2
/-- [(f(i), ..) for i in range(m)]: a new tuple each -/
theorem g_compRangeT {te : TE} {vs : List Nat} {σ : L2.St} {H : Hp} {Q : VK} {j m : Nat} (f : Nat → List V) (hl : m ≤ 1000) (hw : ∀ x, wipe ((wipe σ vs).set j (some x)) vs = wipe σ vs)
    (he : ∀ (i : Nat), i < m → ∀ (H' : Hp) (Q' : VK), Same H H' → (∀ t H4, H' t = none → Same H' H4 → H4 t = some (.tup (f i)) → Q' (.ref t) H4) → te ((wipe σ vs).set j (some (.int (0 + (i : Int))))) H' Q')
    (h : ∀ D, H D = none → ∀ (H' : Hp) (ts : List Addr), Same H H' → H' D = some (.lst (ts.map V.ref)) → ts.length = m → (∀ (i : Nat), i < m → ∃ t, ts[i]? = some t ∧ H' t = some (.tup (f i))) → Q (.ref D) H') :
    LcP (Itr 0 m) (gName j) tYes te vs σ H Q := by
  intro D hD
  refine lc_range (lo := 0) (n := m) (Qd := Q (.ref D)) (fun i H' => Same H H' ∧ ∃ ts : List Addr, H' D = some (.lst (ts.map V.ref)) ∧ ts.length = i ∧ ∀ (l : Nat), l < i → ∃ t, ts[l]? = some t ∧ H' t = some (.tup (f l)))
    ⟨same_upd hD, [], upd_same, rfl, fun _ z => absurd z (Nat.not_lt_zero _)⟩ (fun i H' hi p => ?_) (fun H' p => ?_)
  · obtain ⟨s1, ts, e1, e2, e3⟩ := p
    refine ⟨hw _, ?_⟩
    unfold tYes
    dsimp only
    rw [if_pos rfl]
    refine he i hi H' _ s1 (fun t H4 nt s4 et => ?_)
    refine ⟨_, s4 _ _ e1, ?_, same_mut hD (s1.trans s4), ts ++ [t], ?_, by rw [List.length_append, e2]; rfl, fun l hl2 => ?_⟩
    · rw [List.length_map]
      exact small1000 (by omega)
    · rw [upd_same, List.map_append]
      rfl
    · have ndt : ∀ {u : Addr} {zs : List V}, H4 u = some (.tup zs) → (upd H4 D (.lst (ts.map V.ref ++ [.ref t]))) u = some (.tup zs) := fun {u zs} z => by
        have hne : u ≠ D := fun w => by
          subst w
          rw [s4 _ _ e1] at z
          cases z
        rw [upd_ne hne]
        exact z
      by_cases c : l < i
      · obtain ⟨u, hu, hH⟩ := e3 l c
        exact ⟨u, by rw [List.getElem?_append_left (by omega)]; exact hu, ndt (s4 _ _ hH)⟩
      · have e : l = i := by omega
        subst e
        exact ⟨t, by rw [List.getElem?_append_right (by omega), e2, Nat.sub_self]; rfl, ndt et⟩
  · obtain ⟨s1, ts, e1, e2, e3⟩ := p
    exact h D hD H' ts s1 e1 e2 e3
theorem divP {i j : Int} (h0 : 0 < j) (h1 : j ≤ 10000000000000000000000000000000000000000000000000000000000000000000000000000000000000000000000000000000000000000000000000000000000000000000000000000000000000000000000000000000000000000000000000000000000000000000000000000000000000000000000000000000000000000000000000000000000000000000000000000000000000000000000000000000000000000000000000000000000000000000000000000000000000000000000000000000000000000) : CDivP i j :=
  ⟨h0, PyProof.noPylong_of_log2 (divW (i := i) h0 h1).2⟩
theorem mul_bd {a b A B : Int} (a0 : 0 ≤ a) (a1 : a ≤ A) (b0 : 0 ≤ b) (b1 : b ≤ B) : 0 ≤ a * b ∧ a * b ≤ A * B := ⟨Int.mul_nonneg a0 b0, Int.mul_le_mul a1 b1 b0 (by omega)⟩
theorem ediv_bd {a s B : Int} (hs : 1 ≤ s) (h0 : -B ≤ a) (h1 : a ≤ B) (hB : 0 ≤ B) : -B ≤ a / s ∧ a / s ≤ B := by
  constructor
  · refine (Int.le_ediv_iff_mul_le (by omega)).mpr ?_
    have := Int.mul_le_mul_of_nonneg_left hs hB
    have e : -B * s = -(B * s) := Int.neg_mul ..
    omega
  · have h2 : a < (B + 1) * s := by
      have := Int.mul_le_mul_of_nonneg_left hs (show 0 ≤ B + 1 by omega)
      omega
    have := Int.ediv_lt_of_lt_mul (show 0 < s by omega) h2
    omega
theorem abs_bd {i B : Int} (h0 : -B ≤ i) (h1 : i ≤ B) (hB : B ≤ 10000000000000000000000000000000000000000000000000000000000000000000000000000000000000000000000000000000000000000000000000000000000000000000000000000000000000000000000000000000000000000000000000000000000000000000000000000000000000000000000000000000000000000000000000000000000000000000000000000000000000000000000000000000000000000000000000000000000000000000000000000000000000000000000000000000000000000) : i.natAbs ≤ 10000000000000000000000000000000000000000000000000000000000000000000000000000000000000000000000000000000000000000000000000000000000000000000000000000000000000000000000000000000000000000000000000000000000000000000000000000000000000000000000000000000000000000000000000000000000000000000000000000000000000000000000000000000000000000000000000000000000000000000000000000000000000000000000000000000000000000 := by omega
theorem small6 {n : Nat} (h : n ≤ 100) : n < 1000 := by omega
end Gh
/-! ## errors that are caught -/
namespace Gh
open PySem PySem.Spec PyProof.Rows L2
section
variable {X : Cx} {CX : CXT} {k : Nat} {f C : Addr} {fd : FuncData} {ps : List Str} {sp : Sp} {dvs : List V} {ds : List Value} {x m : Str} {p pos apos : Pos} {e o : Expr} {es : List Expr} {ta : TE} {t : TA}
/-- C(..) in a try: what is wished of an error hangs on the slots -/
def tMakeS (C : Addr) (sp : Sp) (dvs : List V) (E : L2.St → XK) (t : TA) : TE := fun σ H Q => t σ H fun vs H1 => ∀ x dx, H1 x = none → H1 dx = none → dx ≠ x →
  sp (.ref x :: (vs ++ dvs)) (upd (upd H1 dx (.own x)) x (.ins C dx [])) (fun v H2 => v = .non ∧ Q (.ref x) H2) (E σ)
def tMethS (C : Addr) (m : Str) (sp : Sp) (dvs : List V) (E : L2.St → XK) (ta : TE) (t : TA) : TE := fun σ H Q => ta σ H fun x H1 => ∃ a dx fs, x = .ref a ∧ H1 a = some (.ins C dx fs) ∧ fs.lookup m = none ∧
  t σ H1 fun vs H2 => sp (x :: (vs ++ dvs)) H2 Q (E σ)
theorem run_makeS {pins : List (Addr × Obj)} {σ : L2.St} {H : Hp} {s : Shared} {Q : VK} {E : XK} {us : List Value} {vs : List V} (M : Mk X.K C f) (F : FnOk X.prog X.w X.K X.mg X.base CX k f fd ps sp) (hr : Room (k + 1) X.A) (hb : Binds X.K fd ps ds) (hd : Vals dvs ds)
    (hx : PassesAt CX X σ E) (I : Inv X pins σ H s) (r : Vals vs us)
    (h : ∀ x dx, H x = none → H dx = none → dx ≠ x → sp (.ref x :: (vs ++ dvs)) (upd (upd H dx (.own x)) x (.ins C dx [])) (fun v H2 => v = .non ∧ Q (.ref x) H2) E) :
    wpAny (model X.prog X.w) X.A (call (.ref C) us) (EP X pins σ Q) X.xe s := by
  have fr1 : H (s.heap.objs.size + 1) = none := I.hok.fresh (Nat.le_succ _)
  have fr0 : H s.heap.objs.size = none := I.hok.fresh (Nat.le_refl _)
  have q0 := h _ _ fr1 fr0 (Nat.ne_of_lt (Nat.lt_succ_self _))
  have J := I.made (C := C)
  have ra : Vals (V.ref (s.heap.objs.size + 1) :: (vs ++ dvs)) (Value.ref (s.heap.objs.size + 1) :: (us ++ ds)) := .cons rfl (r.append hd)
  have la : (Value.ref (s.heap.objs.size + 1) :: us ++ ds).length = ps.length := ra.length.symm.trans (F.len _ _ _ _ q0)
  have run := F.run _ X.stack _ _ ⟨Value.ref (s.heap.objs.size + 1) :: us, []⟩ (Value.ref (s.heap.objs.size + 1) :: (us ++ ds)) _ _ E (hr.make C us []) (J.env0.make C us [])
    (hb _ (Value.ref (s.heap.objs.size + 1) :: us) J.kIn la) ra q0
  refine wpAny_call (make_map (f := f) I.kIn M.makes M.init (beq_iff_eq.mp M.fn) (codeAny_mono run fun z s' hz => ?_))
  rcases z with er | fl
  · exact hx pins _ _ er s' J hz
  · rcases fl with u | _ | _ | _
    · exact hz.elim
    · exact hz.elim
    · exact hz.elim
    · rename_i u
      obtain ⟨v, H', I3, rv, ev, q3⟩ := J.after hz
      subst ev
      exact ⟨rv, V.ref (s.heap.objs.size + 1), H', I3, rfl, q3⟩
theorem pe_makeS {E : L2.St → XK} (M : Mk X.K C f) (F : FnOk X.prog X.w X.K X.mg X.base CX k f fd ps sp) (hr : Room (k + 1) X.A) (hg : Gl X x) (hm : X.mg x = some (.ref C)) (hb : Binds X.K fd ps ds) (hd : Vals dvs ds) (hx : ∀ σ, PassesAt CX X σ (E σ))
    (ha : PA X (e :: es) t) (hdb : (x == ("__debug__" : Str)) = false := by decide) (he : starEach (e :: es) X.env = (false, eval e X.env) :: starEach es X.env := by rfl) (hpl : (backTo pos (starEach es X.env)).any (·.1) = false := by rfl) :
    PE X (.Call (.Name x p) (e :: es) [] pos) (tMakeS C sp dvs E t) := ⟨fun pins s σ H Q I h =>
  wpAny_Call_Name_kw (ld_glob I hg hm (PySem.W.callWith_K (h₀ := X.base) I.ok.mod.kin M.kp (thn (ha.run pos pins s σ H _ I h) fun _ _ ⟨_, _, I1, r, q⟩ => ⟨I1.kIn, run_makeS M F hr hb hd (hx σ) I1 r q⟩) he hpl) hdb)⟩
theorem pe_methE {E : L2.St → XK} {pl : Sem Bool} (he : PE X o ta) (c : Cls X.K C) (hm : Meth X.K C m f) (F : FnOk X.prog X.w X.K X.mg X.base CX k f fd ps sp) (hr : Room k X.A) (hb : Binds X.K fd ps []) (hx : ∀ σ, PassesAt CX X σ (E σ)) (ha : PA X (e :: es) t)
    (hst : starEach (e :: es) X.env = (false, eval e X.env) :: starEach es X.env := by rfl) (hpl : (backTo pos (starEach es X.env)).any (·.1) = false := by rfl)
    (ht : eval (.Call (.Attribute o m apos) (e :: es) [] pos) X.env = (do
      let ov ← eval o X.env
      standAt apos.atName
      let (f, first) ← holding [ov] (getMethod ov m pl)
      callWith pos f first (backTo pos (starEach (e :: es) X.env)) (backToKw pos (keywordEach [] X.env))) := by rfl) :
    PE X (.Call (.Attribute o m apos) (e :: es) [] pos) (tMethS C m sp [] E ta t) := by
  refine ⟨fun pins s σ H Q I h => PySem.W.methodCall_KW (pl := pl) (thn (he.run pins s σ H _ I h) fun u s1 hh => ?_) ht⟩
  obtain ⟨x, H1, I1, rx, a, dx, fs, ex, ea, l, q⟩ := hh
  subst ex
  cases rx
  refine getmeth_ok I1 ea c hm l (PySem.W.callWith_K (first := [.ref a]) (h₀ := X.base) I.ok.mod.kin hm.kp (thn (ha.run pos pins s1 σ H1 _ I1 q) fun us s2 hh2 => ?_) hst hpl)
  obtain ⟨vs, H2, I2, r, q2⟩ := hh2
  rw [List.append_nil] at q2
  exact ⟨I2.kIn, run_fnS (us := .ref a :: us) (vs := .ref a :: vs) F hr hb (hx σ) I2 (.cons rfl r) q2⟩
/-- isinstance(e, c), e the error at hand, of whatever own class -/
theorem call_isE' {a : Addr} {oe : Obj} {cls : Value} {d : Option Addr} {pn : List (Addr × Obj)} (hz : Zc cls d oe) (hf : ∃ vs, oe.data = .fields vs) :
    CallR (X.suite a ((a, oe) :: pn)) (.builtin "isinstance") (fun xs H Q => ∃ D, cls = .ref D ∧ d = none ∧ ExcC X.K D ∧ rIsE X.K D a xs H Q) := by
  intro pins s σ H xs us Q I r h
  obtain ⟨D, e1, e2, c, h⟩ := h
  subst e1
  subst e2
  exact call_isE c hz hf pins s σ H xs us Q I r h
end
section
variable {K : PySem.W.Frag} {D H : Addr} {b : Bool}
theorem kit_ref (h1 : PySem.W.hasDictIn K H = true) (h2 : PySem.W.typeIn K (.ref H) = some (.type "type")) (hs : PySem.W.subIn K (.ref D) (.ref H) = some b) (hr : PySem.W.subIn K (.ref D) (.ref D) = some true) : PySem.W.kitOne K (.ref D) (.ref H) = some b := by
  unfold PySem.W.kitOne
  by_cases e : D = H
  · subst e
    rw [hs] at hr
    cases hr
    rw [if_pos (by simp)]
  · have ne : ¬ ((Value.ref D == Value.ref H) = true) := by
      intro z
      have z2 := eq_of_beq z
      cases z2
      exact e rfl
    obtain ⟨cd, hc, _⟩ := PySem.W.any_some h1
    have e2 : ((PySem.W.clsIn K H).isSome && PySem.W.typeIn K (.ref H) == some (.type "type")) = true := by
      rw [hc, h2]
      rfl
    rw [if_neg ne]
    show (if ((PySem.W.clsIn K H).isSome && PySem.W.typeIn K (.ref H) == some (.type "type")) = true then PySem.W.subIn K (.ref D) (.ref H) else none) = some b
    rw [if_pos e2]
    exact hs
theorem kit_typ {n : String} (hm : PySem.W.kitMeta n = true) (hs : PySem.W.subIn K (.ref D) (.type n) = some b) : PySem.W.kitOne K (.ref D) (.type n) = some b := by
  unfold PySem.W.kitOne
  rw [if_neg (show ¬ ((Value.ref D == Value.type n) = true) from fun z => by have z2 := eq_of_beq z; cases z2)]
  show (if PySem.W.kitMeta n = true then PySem.W.subIn K (.ref D) (.type n) else none) = some b
  rw [if_pos hm]
  exact hs
end
section
variable {K : PySem.W.Frag} {D : Ends} {σ : L2.St} {H : Hp} {Q : VK} {tr : TA} {ta : TE}
theorem g_makeS {C : Addr} {sp : Sp} {dvs : List V} {E : L2.St → XK} (h : tr σ H fun vs H1 => ∀ x dx, H1 x = none → H1 dx = none → dx ≠ x → sp (.ref x :: (vs ++ dvs)) (upd (upd H1 dx (.own x)) x (.ins C dx [])) (fun v H2 => v = .non ∧ Q (.ref x) H2) (E σ)) : tMakeS C sp dvs E tr σ H Q := h
theorem g_methS {C : Addr} {m : Str} {sp : Sp} {dvs : List V} {E : L2.St → XK} (h : ta σ H fun x H1 => ∃ a dx fs, x = .ref a ∧ H1 a = some (.ins C dx fs) ∧ fs.lookup m = none ∧ tr σ H1 fun vs H2 => sp (x :: (vs ++ dvs)) H2 Q (E σ)) : tMethS C m sp dvs E ta tr σ H Q := h
theorem g_callS {sp : Sp} {E : L2.St → XK} (h : tr σ H fun vs H1 => sp vs H1 Q (E σ)) : tCallS sp E tr σ H Q := h
theorem g_isE {cls : Value} {d : Option Addr} {C a c : Addr} {b : Bool} (e : ExcC K C) (k : PySem.W.kitOne K (.ref C) (.ref c) = some b) (h : Q (.bl b) H) (h1 : cls = .ref C) (h2 : d = none) :
    ∃ D, cls = .ref D ∧ d = none ∧ ExcC K D ∧ rIsE K D a [.ref a, .ref c] H Q := ⟨C, h1, h2, e, .ref c, .ref c, b, rfl, fun _ z => z, k, h⟩
theorem g_isET {cls : Value} {d : Option Addr} {C a : Addr} {n : String} {b : Bool} (e : ExcC K C) (k : PySem.W.kitOne K (.ref C) (.type n) = some b) (h : Q (.bl b) H) (h1 : cls = .ref C) (h2 : d = none) :
    ∃ D, cls = .ref D ∧ d = none ∧ ExcC K D ∧ rIsE K D a [.ref a, .ty n] H Q := ⟨C, h1, h2, e, .ty n, .type n, b, rfl, fun _ z => z, k, h⟩
end
end Gh
/-! ## sorted(d.items()), d a dict of ints by ints -/
namespace Gh
open PySem PySem.Spec PyProof.Rows L2 L2.DX
section
variable {prog : Program} {w : World} {Kt : Type} [DecidableEq Kt] {knd : KeyKind prog w Kt}
theorem pairs_get : ∀ {es : List DictEntry} {kvs : List (Kt × Value)}, Pairs knd es kvs → ∀ {j : Nat} {e : DictEntry}, es[j]? = some e → ∃ q, kvs[j]? = some q ∧ knd.is q.1 e.key = true ∧ e.val = q.2
  | _, _, .nil, j, e, h => by simp at h
  | _, _, .cons h1 h2 t, 0, e, h => by
    have x := Option.some.inj h
    subst x
    exact ⟨_, rfl, h1, h2⟩
  | _, _, .cons h1 h2 t, j + 1, e, h => pairs_get t (by simpa using h)
theorem paired_at {α β : Type} {F : α → β → Prop} : ∀ {xs : List α} {ys : List β}, Paired F xs ys → ∀ {j : Nat} {y : β}, ys[j]? = some y → ∃ x, xs[j]? = some x ∧ F x y
  | _, _, .nil, j, y, h => by simp at h
  | _, _, .cons r t, 0, y, h => by
    have x := Option.some.inj h
    subst x
    exact ⟨_, rfl, r⟩
  | _, _, .cons r t, j + 1, y, h => paired_at t (by simpa using h)
end
/-- the two ints of a tuple that stands in the heap -/
def twoOf (h : Heap) : Value → Int × Int
  | .ref b => (match h.get? b with
    | some o => (match o.data with
      | .seq arr _ => (match arr.toList with
        | [.int x _, .int y _] => (x, y)
        | _ => (0, 0))
      | _ => (0, 0))
    | none => (0, 0))
  | _ => (0, 0)
theorem twoOf_pair {h : Heap} {v : Value} {x y : Int} (p : Srt.IsPair h v x y) : twoOf h v = (x, y) := by
  obtain ⟨a, o, t, u, n, e, ho, hc, hd⟩ := p
  subst e
  unfold twoOf
  dsimp only
  rw [ho]
  dsimp only
  rw [hd]
def iEnt (e : Int × Int) : L2.Key × V := (Sum.inl e.1, V.int e.2)
def rItemsK : V → List V → Hp → VK → Prop := fun x xs H Q => ∃ (a : Addr) (kvs : List (L2.Key × V)), x = .ref a ∧ xs = [] ∧ H a = some (.dK kvs) ∧ ∀ p, H p = none → Q (.ref p) (upd H p (itemsO p a))
def rSortItI : List V → Hp → VK → Prop := fun vs H Q => ∃ (p a : Addr) (es : List (Int × Int)), vs = [.ref p] ∧ H p = some (itemsO p a) ∧ H a = some (.dK (es.map iEnt)) ∧
  ∀ (H' : Hp) (l : Addr) (ts : List Addr) (qs : List (Int × Int)), Same H H' → qs.Perm es → qs.Pairwise (fun p q => SrtO.lexB q p = false) → H l = none → H' l = some (.lst (ts.map V.ref)) → ts.length = qs.length →
    (∀ (i : Nat) (q : Int × Int), qs[i]? = some q → ∃ t, ts[i]? = some t ∧ H' t = some (.tup [.int q.1, .int q.2])) → Q (.ref l) H'
section
variable {X : Cx}
theorem mt_itemsK : MtR X "dict.items" rItemsK := by
  intro pins s σ H x xs v us Q I rx rxs h
  obtain ⟨a, kvs, rfl, rfl, ha, q⟩ := h
  cases rx
  cases rxs
  obtain ⟨z, hd, vs, kv, o, es, ep, ho, hx, hdat, _⟩ := dk_of I.hok ha
  refine DT.callItems (es := es) (ep := ep) hd ⟨o, ho, hx, hdat⟩ ?_
  have hf : H s.heap.objs.size = none := I.hok.fresh (Nat.le_refl _)
  refine ⟨.ref s.heap.objs.size, upd H s.heap.objs.size (itemsO s.heap.objs.size a), ?_, rfl, q _ hf⟩
  exact I.laid (t' := s.toks) (fun _ _ => Heap.get?_push_of_some _) (Nat.le_refl _) (itemsO_ok (Heap.get?_push_size _ rfl))
theorem cr_sortedItemsI (hc : X.calm = true) : CallR X (.builtin "sorted") rSortItI := by
  intro pins s σ H xs us Q I r h
  obtain ⟨p, a, ps, rfl, hp, ha, q⟩ := h
  obtain rfl := Vals.ref1 r
  have view : s.heap.IsItemsView p a := (show ObjOk X.prog X.w H s.heap p (itemsO p a) from I.hok p _ hp).1
  obtain ⟨z, hd, vs, kv, o, es, ep, ho, hx, hdat, hks, hpr, hnd⟩ := dk_of I.hok ha
  have len1 : (ps.map iEnt).length = vs.length := Paired.length kv
  have len2 : es.toList.length = vs.length := Pairs.length hpr
  rw [List.length_map] at len1
  rw [List.length_map] at z
  have len3 : es.size = ps.length := by
    rw [← Array.length_toList]
    omega
  have hh : X.A.handled = none := I.ok.hd hc
  -- what stands at the j-th entry
  have ent : ∀ (j : Nat) (e : DictEntry), es[j]? = some e → ∃ (q : Int × Int) (t u : Tok), ps[j]? = some q ∧ e.key = .int q.1 t ∧ e.val = .int q.2 u := by
    intro j e he
    have he2 : es.toList[j]? = some e := by rw [Array.getElem?_toList]; exact he
    obtain ⟨kq, h1, h2, h3⟩ := pairs_get hpr he2
    obtain ⟨pq, h4, h5, h6⟩ := paired_at kv h1
    rw [List.getElem?_map] at h4
    cases e4 : ps[j]? with
    | none =>
      rw [e4] at h4
      cases h4
    | some q0 =>
      rw [e4] at h4
      have e5 : iEnt q0 = pq := Option.some.inj h4
      subst e5
      have h7 : kq.1 = Sum.inl q0.1 := h5.symm
      rw [h7] at h2
      obtain ⟨i, t, ei, et⟩ | ⟨x, t, ei, et⟩ := keyIs_shape (show keyIs (Sum.inl q0.1) e.key = true from h2)
      · cases ei
        obtain ⟨u, hu⟩ := (show ∃ u, kq.2 = Value.int q0.2 u from h6)
        exact ⟨q0, t, u, rfl, et, h3.trans hu⟩
      · cases ei
  refine DT.sortedI (es := es) (ep := ep) hh view ⟨o, ho, hx, hdat⟩ (by omega) fun h' tk as hk hlt hl hG => ?_
  have lak : as.length = ps.length := by omega
  have nd : as.Nodup := hG.rise.imp fun h => Nat.ne_of_lt h
  have hob : (h'.push { cls := .type "list", data := .seq (as.map Value.ref).toArray }).get? h'.objs.size = some (seqObj "list" (as.map Value.ref).toArray 0) := Heap.get?_push_size _ rfl
  have ne0 : ∀ b o, h'.get? b = some o → b ≠ h'.objs.size := fun b o e => Nat.ne_of_lt (Heap.lt_size e)
  have ka : ∀ b o, h'.get? b = some o → (h'.push { cls := .type "list", data := .seq (as.map Value.ref).toArray }).get? b = some o := fun b o e => Heap.get?_push_of_some _ e
  generalize h'.push { cls := .type "list", data := .seq (as.map Value.ref).toArray } = h2 at hob ka ⊢
  -- the pairs that were made
  have made : ∀ (j : Nat) (b : Addr), as[j]? = some b → ∃ (q : Int × Int) (t u : Tok), ps[j]? = some q ∧ h'.get? b = some { cls := .type "tuple", data := .seq #[Value.int q.1 t, Value.int q.2 u] } := by
    intro j b hj
    obtain ⟨e, he, hg⟩ := hG.pairs j b hj
    obtain ⟨q0, t, u, h1, h2, h3⟩ := ent j e he
    rw [h2, h3] at hg
    exact ⟨q0, t, u, h1, hg⟩
  have isp : ∀ (j : Nat) (b : Addr) (q : Int × Int), as[j]? = some b → ps[j]? = some q → Srt.IsPair h2 (.ref b) q.1 q.2 := by
    intro j b q hj hq
    obtain ⟨q', t, u, h1, h3⟩ := made j b hj
    cases h1.symm.trans hq
    exact ⟨b, _, t, u, 0, rfl, ka _ _ h3, rfl, rfl⟩
  have two : ∀ (j : Nat) (b : Addr) (q : Int × Int), as[j]? = some b → ps[j]? = some q → twoOf h2 (.ref b) = q := fun j b q hj hq => twoOf_pair (isp j b q hj hq)
  have kmap : as.map (fun b => twoOf h2 (.ref b)) = ps := by
    apply List.ext_getElem
    · rw [List.length_map, lak]
    · intro j h1 h3
      rw [List.getElem_map]
      have h4 : j < as.length := by simpa using h1
      exact two j _ _ (List.getElem?_eq_getElem h4) (List.getElem?_eq_getElem h3)
  have pa : ∀ v ∈ as.map Value.ref, Srt.IsPair h2 v (twoOf h2 v).1 (twoOf h2 v).2 := by
    intro v hv
    obtain ⟨b, hb, rfl⟩ := List.mem_map.mp hv
    obtain ⟨j, hj⟩ := List.mem_iff_getElem?.mp hb
    obtain ⟨q', t, u, h1, _⟩ := made j b hj
    rw [two j b q' hj h1]
    exact isp j b q' hj h1
  refine wpAny_call_entry PyProof.Rows.slot_list_sort ⟨_, hob, rfl⟩ PyProof.Rows.entry_list_sort (SrtO.list_sort_ord (s := { s with heap := h2, toks := tk }) (SrtO.swo_lex (twoOf h2)) hob (by rw [List.length_map]; omega)
    (fun hlen => SrtO.pairs_sortableO (by omega) pa fun o' e' c => ?_) fun out o1 o2 => ⟨.none, rfl, ?_⟩) (PyProof.Rows.args_list_sort _)
  · have e2 : o' = seqObj "list" (as.map Value.ref).toArray 0 := Option.some.inj (e'.symm.trans hob)
    subst e2
    exact absurd (Value.type.inj c) (by decide)
  · show EP X pins σ Q (.ref h'.objs.size) { s with heap := sortedHeap h2 h'.objs.size (as.map Value.ref) out.toArray, toks := tk }
    obtain ⟨ts, pts, ets⟩ : ∃ ts : List Addr, ts.Perm as ∧ ts.map Value.ref = out := by
      have h1 : ∀ u ∈ out, ∃ b, u = Value.ref b := fun u hu => by
        obtain ⟨b, _, e⟩ := List.mem_map.mp (o2.perm.mem_iff.mp hu)
        exact ⟨b, e.symm⟩
      have h3 : (out.map fun u => match u with | .ref b => b | _ => 0).map Value.ref = out := by
        rw [List.map_map]
        refine List.map_congr_left (g := id) (fun u hu => ?_) |>.trans (List.map_id _)
        obtain ⟨b, rfl⟩ := h1 u hu
        rfl
      refine ⟨_, ?_, h3⟩
      have h4 := o2.perm.map (fun u => match u with | .ref b => b | _ => 0)
      rw [List.map_map] at h4
      have h5 : as.map ((fun u => match u with | .ref b => b | _ => 0) ∘ Value.ref) = as := by
        refine (List.map_congr_left (g := id) fun b _ => rfl).trans (List.map_id _)
      rw [h5] at h4
      exact h4
    have kF : ∀ b o, b ≠ h'.objs.size → h2.get? b = some o → (sortedHeap h2 h'.objs.size (as.map Value.ref) out.toArray).get? b = some o := fun b o hb e => (PyProof.Rows.sortedHeap_old hb (Heap.lt_size e)).trans e
    have kS : ∀ b o, s.heap.get? b = some o → (sortedHeap h2 h'.objs.size (as.map Value.ref) out.toArray).get? b = some o := fun b o e => kF b o (ne0 _ _ (hk b o e)) (ka b o (hk b o e))
    obtain ⟨eF, heF⟩ := PyProof.Rows.sortedHeap_at (vs := as.map Value.ref) (out := out.toArray) hob
    have I1 : Inv X pins σ H { s with heap := sortedHeap h2 h'.objs.size (as.map Value.ref) out.toArray, toks := tk } := I.kept (t' := tk) kS
    have hn0 : H h'.objs.size = none := I.hok.fresh (Nat.le_of_lt hlt)
    have hlen : (ts.map V.ref).length ≤ sizeLine := by
      rw [List.length_map, pts.length_eq]
      omega
    have rv : Vals (ts.map V.ref) out.toArray.toList := by
      show Vals (ts.map V.ref) out
      rw [← ets]
      exact vals_maps V.ref Value.ref ts fun _ _ => rfl
    have I2 := I1.take (h' := sortedHeap h2 h'.objs.size (as.map Value.ref) out.toArray) (t' := tk) (fun b ob _ e => e) (I.fpOk (Nat.le_of_lt hlt) hn0) (o := .lst (ts.map V.ref)) ⟨hlen, _, eF, rv, heF⟩
    obtain ⟨H2, I3, g, qt⟩ := takeT (P := fun b vs => ∃ (j : Nat) (e : Int × Int), as[j]? = some b ∧ ps[j]? = some e ∧ vs = [.int e.1, .int e.2]) I as _ I2 nd fun b hb => by
      obtain ⟨j, hj⟩ := List.mem_iff_getElem?.mp hb
      obtain ⟨e, t, u, he, hg⟩ := made j b hj
      have hbl : s.heap.objs.size ≤ b := Nat.le_of_lt (hG.above b hb)
      refine ⟨hbl, ?_, [.int e.1, .int e.2], ⟨j, e, hj, he, rfl⟩, fun H3 => ⟨Nat.le_of_lt (small1000 (by simp)), [Value.int e.1 t, Value.int e.2 u], .cons ⟨_, rfl⟩ (.cons ⟨_, rfl⟩ .nil), ⟨_, kF _ _ (ne0 _ _ hg) (ka _ _ hg), rfl, 0, rfl⟩⟩⟩
      rw [upd_ne (ne0 _ _ hg)]
      exact I.hok.fresh hbl
    have gr : Same H H2 := fun b o e => g b o (by rw [upd_ne (ne_of_none e hn0)]; exact e)
    refine ⟨.ref h'.objs.size, H2, I3, rfl, q H2 h'.objs.size ts (ts.map fun b => twoOf h2 (.ref b)) gr ?_ ?_ hn0 (g _ _ upd_same) (by rw [List.length_map]) fun i q' hq => ?_⟩
    · have h1 := pts.map (fun b => twoOf h2 (.ref b))
      rw [kmap] at h1
      exact h1
    · rw [← ets] at o1
      rw [List.pairwise_map]
      exact List.pairwise_map.mp o1
    · rw [List.getElem?_map] at hq
      cases et : ts[i]? with
      | none =>
        rw [et] at hq
        cases hq
      | some b =>
        rw [et] at hq
        have eq2 : twoOf h2 (.ref b) = q' := Option.some.inj hq
        have hb : b ∈ as := pts.mem_iff.mp (List.mem_of_getElem? et)
        obtain ⟨vs', ⟨j, e, j1, j2, ev⟩, hH⟩ := qt b hb
        rw [two j b e j1 j2] at eq2
        subst eq2
        rw [ev] at hH
        exact ⟨b, rfl, hH⟩
end
end Gh
/-! ## dicts of ints by ints, lists of pairs -/
namespace Gh
open PySem PySem.Spec PyProof.Rows L2
theorem valV_i (k : Int) : ∀ es : List (Int × Int), valV (es.map iEnt) (Sum.inl k : Key) = (getI es k).map V.int
  | [] => rfl
  | e :: es => by
    by_cases c : e.1 = k
    · rw [List.map_cons, valV_pos (by show (Sum.inl e.1 : Key) = Sum.inl k; rw [c])]
      unfold getI
      rw [List.find?_cons, decide_eq_true c]
      rfl
    · rw [List.map_cons, valV_neg (by show ¬ (Sum.inl e.1 : Key) = Sum.inl k; exact fun z => c (Sum.inl.inj z)), valV_i k es]
      unfold getI
      rw [List.find?_cons, decide_eq_false c]
theorem putK_i (k v : Int) (es : List (Int × Int)) : putK (es.map iEnt) (Sum.inl k : Key) (.int v) = (putI es k v).map iEnt := by
  have h1 : ((es.map iEnt).any fun kv => decide (kv.1 = (Sum.inl k : Key))) = es.any fun e => decide (e.1 = k) := by
    rw [List.any_map]
    congr 1
    funext e
    show decide ((Sum.inl e.1 : Key) = Sum.inl k) = decide (e.1 = k)
    exact decide_eq_decide.mpr ⟨fun z => Sum.inl.inj z, fun z => by rw [z]⟩
  unfold putK putI
  rw [h1]
  split
  · rw [List.map_map, List.map_map]
    refine List.map_congr_left fun e _ => ?_
    show (if (Sum.inl e.1 : Key) = Sum.inl k then ((Sum.inl e.1 : Key), V.int v) else iEnt e) = iEnt (if e.1 = k then (e.1, v) else e)
    by_cases c : e.1 = k
    · rw [if_pos (by rw [c]), if_pos c]
      rfl
    · rw [if_neg (fun z => c (Sum.inl.inj z)), if_neg c]
  · rw [List.map_append]
    rfl
theorem putI_len (es : List (Int × Int)) (k v : Int) : (putI es k v).length ≤ es.length + 1 := by
  unfold putI
  split
  · rw [List.length_map]
    omega
  · rw [List.length_append]
    exact Nat.le_refl _
section
variable {K : PySem.W.Frag} {nx : L2.St → Hp → Prop} {rt : VK} {bk ct : L2.St → Hp → Prop} {σ : L2.St} {H : Hp} {Q : VK} {td ty tv tx : TE} {k v : Int} {a : Addr} {es : List (Int × Int)}
theorem g_dg (h : td σ H fun x H1 => ∃ a, x = .ref a ∧ IsD H1 a ∧ ty σ H1 fun y H2 => tx σ H2 fun z H3 => ∃ o, DGet H3 a y o ∧ Q (o.getD z) H3) : tDGet2 td ty tx σ H Q := h
theorem g_isd {P : Addr → Prop} (e : H a = some (.dK (es.map iEnt))) (h : P a) : ∃ a', V.ref a = .ref a' ∧ IsD H a' ∧ P a' := ⟨a, rfl, .inl ⟨_, .inl e⟩, h⟩
theorem g_dgI {P : Option V → Prop} (e : H a = some (.dK (es.map iEnt))) (h : ∀ o : Option V, o.getD (.int 0) = .int ((getI es k).getD 0) → P o) : ∃ o, DGet H a (.int k) o ∧ P o := by
  refine ⟨_, DGet.k (k := Sum.inl k) e, h _ ?_⟩
  rw [valV_i]
  cases e2 : getI es k with
  | none => rfl
  | some z => rfl
theorem g_dp (h : tv σ H fun v H1 => td σ H1 fun x H2 => ty σ H2 fun y H3 => ∃ a H4, x = .ref a ∧ DPut H3 a y v H4 ∧ nx σ H4) : sDPut td ty tv ⟨nx, rt, bk, ct⟩ σ H := h
theorem g_dpI {P : Hp → Prop} (e : H a = some (.dK (es.map iEnt))) (hl : es.length ≤ 100) (h : P (upd H a (.dK ((putI es k v).map iEnt)))) : ∃ a' H4, V.ref a = .ref a' ∧ DPut H a' (.int k) (.int v) H4 ∧ P H4 := by
  refine ⟨a, _, rfl, DPut.k (k := Sum.inl k) e (by rw [List.length_map]; exact small1000 (by omega)), ?_⟩
  rw [putK_i]
  exact h
theorem g_disp1 {tk : TE} (h : ∀ p, H p = none → tk σ (upd H p (.dK [])) fun x H1 => tv σ H1 fun y H2 => H2 p = some (.dK []) ∧ ∃ kvs : List (Key × V), [(x, y)] = kvs.map (fun kv => (kV kv.1, kv.2)) ∧ kvs.length ≤ 15 ∧ Q (.ref p) (upd H2 p (.dK (mergeK [] kvs)))) : tDisp [(tk, tv)] σ H Q := h
theorem merge1 : mergeK [] [((Sum.inl k : Key), V.int v)] = [(k, v)].map iEnt := rfl
theorem g_dispI {p : Addr} {P : List (Key × V) → Prop} (e : H p = some (.dK [])) (h : P [(Sum.inl k, V.int v)]) :
    H p = some (.dK []) ∧ ∃ kvs : List (Key × V), [(V.int k, V.int v)] = kvs.map (fun kv => (kV kv.1, kv.2)) ∧ kvs.length ≤ 15 ∧ P kvs := ⟨e, [(Sum.inl k, V.int v)], rfl, (by show 1 ≤ 15; decide), h⟩
theorem g_items {ta : TE} {r : V → List V → Hp → VK → Prop} (h : ta σ H fun x H1 => tyV K "dict" x H1 ∧ r x [] H1 Q) : tBM0 K "dict" r ta σ H Q := h
theorem g_itemsI (e : H a = some (.dK (es.map iEnt))) (h : ∀ p, H p = none → Q (.ref p) (upd H p (L2.DX.itemsO p a))) : tyV K "dict" (.ref a) H ∧ rItemsK (.ref a) [] H Q :=
  ⟨.inr (.inr (.inl ⟨rfl, .inl ⟨_, e⟩⟩)), a, _, rfl, rfl, e, h⟩
end
/-- a list of pairs -/
def RowsAt (H : Hp) (l : Addr) (qs : List (Int × Int)) : Prop := ∃ ts : List Addr, H l = some (.lst (ts.map V.ref)) ∧ ts.length = qs.length ∧ ∀ (i : Nat) (q : Int × Int), qs[i]? = some q → ∃ t, ts[i]? = some t ∧ H t = some (.tup [.int q.1, .int q.2])
theorem RowsAt.same {H H' : Hp} {l : Addr} {qs : List (Int × Int)} (h : RowsAt H l qs) (e : Same H H') : RowsAt H' l qs := by
  obtain ⟨ts, e1, e2, e3⟩ := h
  refine ⟨ts, e _ _ e1, e2, fun i q hq => ?_⟩
  obtain ⟨t, h1, h2⟩ := e3 i q hq
  exact ⟨t, h1, e _ _ h2⟩
def dPair (q : Int × Int) : PyData := .tuple [.int q.1, .int q.2]
def dRows (qs : List (Int × Int)) : PyData := .list (qs.map dPair)
theorem dp_rows {K : PySem.W.Frag} {H : Hp} : ∀ {ts : List Addr} {qs : List (Int × Int)}, ts.length = qs.length → (∀ (i : Nat) (q : Int × Int), qs[i]? = some q → ∃ t, ts[i]? = some t ∧ H t = some (.tup [.int q.1, .int q.2])) → DpAll K H (ts.map V.ref) (qs.map dPair)
  | [], [], _, _ => .nil
  | t :: ts, q :: qs, hl, h => by
    obtain ⟨t', h1, h2⟩ := h 0 q rfl
    have e : t = t' := Option.some.inj h1
    subst e
    exact .cons (.tup (SqT.of h2) (.cons (.int _) (.cons (.int _) .nil))) (dp_rows (by simpa using hl) fun i q' hq => h (i + 1) q' (by simpa using hq))
  | [], _ :: _, hl, _ => by simp at hl
  | _ :: _, [], hl, _ => by simp at hl
theorem RowsAt.dp {K : PySem.W.Frag} {H : Hp} {l : Addr} {qs : List (Int × Int)} (h : RowsAt H l qs) : Dp K H (.ref l) (dRows qs) := by
  obtain ⟨ts, e1, e2, e3⟩ := h
  exact .lst (SqL.of e1) (dp_rows e2 e3)
theorem rows_lay : ∀ qs : List (Int × Int), PyData.canLayAll0 (qs.map dPair) = true
  | [] => rfl
  | q :: qs => by
    rw [List.map_cons, PyData.canLayAll0, rows_lay qs]
    rfl
theorem rows_depth : ∀ qs : List (Int × Int), PyData.depthAll (qs.map dPair) ≤ 5
  | [] => by decide
  | q :: qs => by
    have := rows_depth qs
    simp only [List.map_cons, PyData.depthAll, dPair, PyData.depth]
    omega
theorem rows_shaped (qs : List (Int × Int)) : SeqAt.shaped (dRows qs) = true := by
  unfold SeqAt.shaped dRows
  rw [PyData.canLay0, rows_lay, PyData.depth]
  have := rows_depth qs
  simp
  omega
theorem rows_eqv (qs : List (Int × Int)) : PyData.eqv (dRows qs) (dRows qs) = true := SeqAt.eqv_refl _ (by rw [dRows, PyData.canLay0]; exact rows_lay qs)
section
variable {K : PySem.W.Frag} {H : Hp} {Q : VK} {a b : Addr} {qs : List (Int × Int)}
theorem g_eqR (h1 : RowsAt H a qs) (h2 : RowsAt H b qs) (h : Q (.bl true) H) : rEqD K (.ref a) (.ref b) H Q := ⟨_, _, h1.dp, h2.dp, rows_shaped _, rows_shaped _, by rw [rows_eqv]; exact h⟩
theorem g_neR (h1 : RowsAt H a qs) (h2 : RowsAt H b qs) (h : Q (.bl false) H) : rNeD K (.ref a) (.ref b) H Q := ⟨_, _, h1.dp, h2.dp, rows_shaped _, rows_shaped _, by rw [rows_eqv]; exact h⟩
end
end Gh
namespace Gh
open PySem PySem.Spec PyProof.Rows L2
def topS (i : Nat) : Stmt := PySem.Challenge.pw_gaphand_k05_three_gaps.main.body.getD i (.Pass ⟨0, 0, 0, 0⟩)
abbrev s_wall : Stmt := topS 0
abbrev N_wall : List Str := ["k"]
theorem sc_wall : FnScope N_wall ["k"] (defScope s_wall) := ⟨rfl, rfl, rfl, by decide +kernel, rfl, by decide +kernel, by decide +kernel⟩
abbrev s_is_whole : Stmt := topS 6
abbrev N_is_whole : List Str := ["thing"]
theorem sc_is_whole : FnScope N_is_whole ["thing"] (defScope s_is_whole) := ⟨rfl, rfl, rfl, by decide +kernel, rfl, by decide +kernel, by decide +kernel⟩
abbrev s_common : Stmt := topS 7
abbrev N_common : List Str := ["one", "other"]
theorem sc_common : FnScope N_common ["one", "other"] (defScope s_common) := ⟨rfl, rfl, rfl, by decide +kernel, rfl, by decide +kernel, by decide +kernel⟩
abbrev s_Wheel_init : Stmt := inClass (topS 8) 0
abbrev N_Wheel_init : List Str := ["self", "size", "step", "start", "number"]
theorem sc_Wheel_init : FnScope N_Wheel_init ["self", "size", "step", "start"] (defScope s_Wheel_init) := ⟨rfl, rfl, rfl, by decide +kernel, rfl, by decide +kernel, by decide +kernel⟩
abbrev s_Wheel_reached : Stmt := inClass (topS 8) 1
abbrev N_Wheel_reached : List Str := ["self", "beat"]
theorem sc_Wheel_reached : FnScope N_Wheel_reached ["self", "beat"] (defScope s_Wheel_reached) := ⟨rfl, rfl, rfl, by decide +kernel, rfl, by decide +kernel, by decide +kernel⟩
abbrev s_Wheel_place : Stmt := inClass (topS 8) 2
abbrev N_Wheel_place : List Str := ["self", "beat"]
theorem sc_Wheel_place : FnScope N_Wheel_place ["self", "beat"] (defScope s_Wheel_place) := ⟨rfl, rfl, rfl, by decide +kernel, rfl, by decide +kernel, by decide +kernel⟩
abbrev s_Wheel_turns : Stmt := inClass (topS 8) 3
abbrev N_Wheel_turns : List Str := ["self", "beat"]
theorem sc_Wheel_turns : FnScope N_Wheel_turns ["self", "beat"] (defScope s_Wheel_turns) := ⟨rfl, rfl, rfl, by decide +kernel, rfl, by decide +kernel, by decide +kernel⟩
abbrev s_need_first : Stmt := topS 10
abbrev N_need_first : List Str := ["wheel", "many", "least"]
theorem sc_need_first : FnScope N_need_first ["wheel", "many", "least"] (defScope s_need_first) := ⟨rfl, rfl, rfl, by decide +kernel, rfl, by decide +kernel, by decide +kernel⟩
abbrev s_around : Stmt := topS 11
abbrev N_around : List Str := ["wheel", "many", "ahead", "near", "behind", "back", "times"]
theorem sc_around : FnScope N_around ["wheel", "many"] (defScope s_around) := ⟨rfl, rfl, rfl, by decide +kernel, rfl, by decide +kernel, by decide +kernel⟩
abbrev s_gaps : Stmt := topS 12
abbrev N_gaps : List Str := ["wheel", "many", "ahead", "near", "behind", "back", "counts"]
theorem sc_gaps : FnScope N_gaps ["wheel", "many"] (defScope s_gaps) := ⟨rfl, rfl, rfl, by decide +kernel, rfl, by decide +kernel, by decide +kernel⟩
abbrev s_law_cell_at : Stmt := topS 14
abbrev N_law_cell_at : List Str := ["_law_script", "_law_k"]
theorem sc_law_cell_at : FnScope N_law_cell_at ["_law_script", "_law_k"] (defScope s_law_cell_at) := ⟨rfl, rfl, rfl, by decide +kernel, rfl, by decide +kernel, by decide +kernel⟩
abbrev s_law_whole : Stmt := topS 15
abbrev N_law_whole : List Str := ["_law_found"]
theorem sc_law_whole : FnScope N_law_whole ["_law_found"] (defScope s_law_whole) := ⟨rfl, rfl, rfl, by decide +kernel, rfl, by decide +kernel, by decide +kernel⟩
abbrev s_law_divisor : Stmt := topS 16
abbrev N_law_divisor : List Str := ["_law_one", "_law_other", "_law_rest"]
theorem sc_law_divisor : FnScope N_law_divisor ["_law_one", "_law_other"] (defScope s_law_divisor) := ⟨rfl, rfl, rfl, by decide +kernel, rfl, by decide +kernel, by decide +kernel⟩
abbrev s_law_signed : Stmt := topS 17
abbrev N_law_signed : List Str := ["_law_cell", "_law_share", "_law_most", "_law_number"]
theorem sc_law_signed : FnScope N_law_signed ["_law_cell", "_law_share"] (defScope s_law_signed) := ⟨rfl, rfl, rfl, by decide +kernel, rfl, by decide +kernel, by decide +kernel⟩
abbrev s_law_drawn : Stmt := topS 18
abbrev N_law_drawn : List Str := ["_law_script", "_law_way", "_law_share", "_law_top", "_law_size"]
theorem sc_law_drawn : FnScope N_law_drawn ["_law_script"] (defScope s_law_drawn) := ⟨rfl, rfl, rfl, by decide +kernel, rfl, by decide +kernel, by decide +kernel⟩
abbrev s_law_shown : Stmt := topS 19
abbrev N_law_shown : List Str := ["_law_found", "_law_size", "_law_step", "_law_many", "_law_number", "_law_ahead", "_law_near", "_law_behind", "_law_back"]
theorem sc_law_shown : FnScope N_law_shown ["_law_found", "_law_size", "_law_step", "_law_many"] (defScope s_law_shown) := ⟨rfl, rfl, rfl, by decide +kernel, rfl, by decide +kernel, by decide +kernel⟩
abbrev s_law_good : Stmt := topS 20
abbrev N_law_good : List Str := ["_law_found", "_law_size", "_law_many", "_law_last", "_law_beats", "_law_width", "_law_row"]
theorem sc_law_good : FnScope N_law_good ["_law_found", "_law_size", "_law_many"] (defScope s_law_good) := ⟨rfl, rfl, rfl, by decide +kernel, rfl, by decide +kernel, by decide +kernel⟩
abbrev s_law_told : Stmt := topS 21
abbrev N_law_told : List Str := ["_law_four", "_law_many", "_law_ahead", "_law_near", "_law_behind", "_law_back", "_law_counts", "_law_width", "_law_count"]
theorem sc_law_told : FnScope N_law_told ["_law_four", "_law_many"] (defScope s_law_told) := ⟨rfl, rfl, rfl, by decide +kernel, rfl, by decide +kernel, by decide +kernel⟩
abbrev s_law_counted : Stmt := topS 22
abbrev N_law_counted : List Str := ["_law_size", "_law_step", "_law_many", "_law_places", "_law_counts", "_law_k", "_law_width", "_law_beat"]
theorem sc_law_counted : FnScope N_law_counted ["_law_size", "_law_step", "_law_many"] (defScope s_law_counted) := ⟨rfl, rfl, rfl, by decide +kernel, rfl, by decide +kernel, by decide +kernel⟩
abbrev s_law_stands : Stmt := topS 23
abbrev N_law_stands : List Str := ["_law_wheel", "_law_size", "_law_step", "_law_many", "_law_found", "_law_four", "_law_kept"]
theorem sc_law_stands : FnScope N_law_stands ["_law_wheel", "_law_size", "_law_step", "_law_many"] (defScope s_law_stands) := ⟨rfl, rfl, rfl, by decide +kernel, rfl, by decide +kernel, by decide +kernel⟩
abbrev s_law_manies : Stmt := topS 24
abbrev N_law_manies : List Str := ["_law_script", "_law_size", "_law_lap", "_law_found", "_law_cell"]
theorem sc_law_manies : FnScope N_law_manies ["_law_script", "_law_size", "_law_lap"] (defScope s_law_manies) := ⟨rfl, rfl, rfl, by decide +kernel, rfl, by decide +kernel, by decide +kernel⟩
abbrev s_law_refused : Stmt := topS 25
abbrev N_law_refused : List Str := ["_law_wheel", "_law_many", "_law_right", "e"]
theorem sc_law_refused : FnScope N_law_refused ["_law_wheel", "_law_many"] (defScope s_law_refused) := ⟨rfl, rfl, rfl, by decide +kernel, rfl, by decide +kernel, by decide +kernel⟩
abbrev s_law : Stmt := topS 26
abbrev N_law : List Str := ["_law_script", "_law_size", "_law_step", "_law_start", "_law_wheel", "_law_lap", "_law_many", "_law_far", "_law_some"]
theorem sc_law : FnScope N_law ["_law_script"] (defScope s_law) := ⟨rfl, rfl, rfl, by decide +kernel, rfl, by decide +kernel, by decide +kernel⟩
structure Txt (K : PySem.W.Frag) (mg : Str → Option Value) where
  C_HandError : Addr
  g_HandError : mg "HandError" = some (.ref C_HandError)
  C_NoWheel : Addr
  g_NoWheel : mg "NoWheel" = some (.ref C_NoWheel)
  x_NoWheel : PySem.W.excIn K C_NoWheel [.type "ValueError", .type "Exception", .type "BaseException", .type "object"] "ValueError.__new__" = true
  k_NoWheel : PySem.W.keepIn K (.ref C_NoWheel) = true
  eb_NoWheel : PySem.W.subIn K (.ref C_NoWheel) (.type "BaseException") = some true
  et_NoWheel : PySem.W.typeIn K (.ref C_NoWheel) = some (.type "type")
  C_NoBeats : Addr
  g_NoBeats : mg "NoBeats" = some (.ref C_NoBeats)
  x_NoBeats : PySem.W.excIn K C_NoBeats [.type "ValueError", .type "Exception", .type "BaseException", .type "object"] "ValueError.__new__" = true
  k_NoBeats : PySem.W.keepIn K (.ref C_NoBeats) = true
  eb_NoBeats : PySem.W.subIn K (.ref C_NoBeats) (.type "BaseException") = some true
  et_NoBeats : PySem.W.typeIn K (.ref C_NoBeats) = some (.type "type")
  e_NoWheel : ExcC K C_NoWheel
  qv_NoWheel : PySem.W.kitOne K (.ref C_NoWheel) (.type "ValueError") = some true
  q_NoWheel_HandError : PySem.W.kitOne K (.ref C_NoWheel) (.ref C_HandError) = some true
  q_NoWheel_NoWheel : PySem.W.kitOne K (.ref C_NoWheel) (.ref C_NoWheel) = some true
  q_NoWheel_NoBeats : PySem.W.kitOne K (.ref C_NoWheel) (.ref C_NoBeats) = some false
  x_NoWheel_NoBeats : PySem.W.exmOne K (.ref C_NoWheel) (.ref C_NoBeats) = some false
  e_NoBeats : ExcC K C_NoBeats
  qv_NoBeats : PySem.W.kitOne K (.ref C_NoBeats) (.type "ValueError") = some true
  q_NoBeats_HandError : PySem.W.kitOne K (.ref C_NoBeats) (.ref C_HandError) = some true
  q_NoBeats_NoWheel : PySem.W.kitOne K (.ref C_NoBeats) (.ref C_NoWheel) = some false
  q_NoBeats_NoBeats : PySem.W.kitOne K (.ref C_NoBeats) (.ref C_NoBeats) = some true
  x_NoBeats_NoBeats : PySem.W.exmOne K (.ref C_NoBeats) (.ref C_NoBeats) = some true
  C_Wheel : Addr
  g_Wheel : mg "Wheel" = some (.ref C_Wheel)
  c_Wheel : Cls K C_Wheel
  kind_Wheel : ∀ (H : Hp) (p dx : Addr) (fs : List (Str × V)), H p = some (.ins C_Wheel dx fs) → Kind K H (.ref p) false
  n_size : NoAttr K C_Wheel "size"
  n_step : NoAttr K C_Wheel "step"
  n_start : NoAttr K C_Wheel "start"
  n_lap : NoAttr K C_Wheel "lap"
  a_wall : Addr
  fd_wall : FuncData
  F_wall : Fun K "_wall" "_wall" s_wall a_wall fd_wall
  b_wall : Binds K fd_wall ["k"] []
  g_wall : mg "_wall" = some (.ref a_wall)
  a_is_whole : Addr
  fd_is_whole : FuncData
  F_is_whole : Fun K "is_whole" "is_whole" s_is_whole a_is_whole fd_is_whole
  b_is_whole : Binds K fd_is_whole ["thing"] []
  g_is_whole : mg "is_whole" = some (.ref a_is_whole)
  a_common : Addr
  fd_common : FuncData
  F_common : Fun K "common" "common" s_common a_common fd_common
  b_common : Binds K fd_common ["one", "other"] []
  g_common : mg "common" = some (.ref a_common)
  a_Wheel_init : Addr
  fd_Wheel_init : FuncData
  F_Wheel_init : FunD K "__init__" "Wheel.__init__" (defArgs s_Wheel_init) (defBody s_Wheel_init) (defScope s_Wheel_init) [.int 0] [] a_Wheel_init fd_Wheel_init
  d3_Wheel_init : List Value
  v3_Wheel_init : Vals [] d3_Wheel_init
  b3_Wheel_init : Binds K fd_Wheel_init ["self", "size", "step", "start"] d3_Wheel_init
  d2_Wheel_init : List Value
  v2_Wheel_init : Vals [.int 0] d2_Wheel_init
  b2_Wheel_init : Binds K fd_Wheel_init ["self", "size", "step", "start"] d2_Wheel_init
  m_Wheel_init : Meth K C_Wheel "__init__" a_Wheel_init
  M_Wheel : Mk K C_Wheel a_Wheel_init
  a_Wheel_reached : Addr
  fd_Wheel_reached : FuncData
  F_Wheel_reached : Fun K "reached" "Wheel.reached" s_Wheel_reached a_Wheel_reached fd_Wheel_reached
  b_Wheel_reached : Binds K fd_Wheel_reached ["self", "beat"] []
  m_Wheel_reached : Meth K C_Wheel "reached" a_Wheel_reached
  a_Wheel_place : Addr
  fd_Wheel_place : FuncData
  F_Wheel_place : Fun K "place" "Wheel.place" s_Wheel_place a_Wheel_place fd_Wheel_place
  b_Wheel_place : Binds K fd_Wheel_place ["self", "beat"] []
  m_Wheel_place : Meth K C_Wheel "place" a_Wheel_place
  a_Wheel_turns : Addr
  fd_Wheel_turns : FuncData
  F_Wheel_turns : Fun K "turns" "Wheel.turns" s_Wheel_turns a_Wheel_turns fd_Wheel_turns
  b_Wheel_turns : Binds K fd_Wheel_turns ["self", "beat"] []
  m_Wheel_turns : Meth K C_Wheel "turns" a_Wheel_turns
  a_need_first : Addr
  fd_need_first : FuncData
  F_need_first : Fun K "need_first" "need_first" s_need_first a_need_first fd_need_first
  b_need_first : Binds K fd_need_first ["wheel", "many", "least"] []
  g_need_first : mg "need_first" = some (.ref a_need_first)
  a_around : Addr
  fd_around : FuncData
  F_around : Fun K "around" "around" s_around a_around fd_around
  b_around : Binds K fd_around ["wheel", "many"] []
  g_around : mg "around" = some (.ref a_around)
  a_gaps : Addr
  fd_gaps : FuncData
  F_gaps : Fun K "gaps" "gaps" s_gaps a_gaps fd_gaps
  b_gaps : Binds K fd_gaps ["wheel", "many"] []
  g_gaps : mg "gaps" = some (.ref a_gaps)
  a_law_cell_at : Addr
  fd_law_cell_at : FuncData
  F_law_cell_at : Fun K "_law_cell_at" "_law_cell_at" s_law_cell_at a_law_cell_at fd_law_cell_at
  b_law_cell_at : Binds K fd_law_cell_at ["_law_script", "_law_k"] []
  g_law_cell_at : mg "_law_cell_at" = some (.ref a_law_cell_at)
  a_law_whole : Addr
  fd_law_whole : FuncData
  F_law_whole : Fun K "_law_whole" "_law_whole" s_law_whole a_law_whole fd_law_whole
  b_law_whole : Binds K fd_law_whole ["_law_found"] []
  g_law_whole : mg "_law_whole" = some (.ref a_law_whole)
  a_law_divisor : Addr
  fd_law_divisor : FuncData
  F_law_divisor : Fun K "_law_divisor" "_law_divisor" s_law_divisor a_law_divisor fd_law_divisor
  b_law_divisor : Binds K fd_law_divisor ["_law_one", "_law_other"] []
  g_law_divisor : mg "_law_divisor" = some (.ref a_law_divisor)
  a_law_signed : Addr
  fd_law_signed : FuncData
  F_law_signed : Fun K "_law_signed" "_law_signed" s_law_signed a_law_signed fd_law_signed
  b_law_signed : Binds K fd_law_signed ["_law_cell", "_law_share"] []
  g_law_signed : mg "_law_signed" = some (.ref a_law_signed)
  a_law_drawn : Addr
  fd_law_drawn : FuncData
  F_law_drawn : Fun K "_law_drawn" "_law_drawn" s_law_drawn a_law_drawn fd_law_drawn
  b_law_drawn : Binds K fd_law_drawn ["_law_script"] []
  g_law_drawn : mg "_law_drawn" = some (.ref a_law_drawn)
  a_law_shown : Addr
  fd_law_shown : FuncData
  F_law_shown : Fun K "_law_shown" "_law_shown" s_law_shown a_law_shown fd_law_shown
  b_law_shown : Binds K fd_law_shown ["_law_found", "_law_size", "_law_step", "_law_many"] []
  g_law_shown : mg "_law_shown" = some (.ref a_law_shown)
  a_law_good : Addr
  fd_law_good : FuncData
  F_law_good : Fun K "_law_good" "_law_good" s_law_good a_law_good fd_law_good
  b_law_good : Binds K fd_law_good ["_law_found", "_law_size", "_law_many"] []
  g_law_good : mg "_law_good" = some (.ref a_law_good)
  a_law_told : Addr
  fd_law_told : FuncData
  F_law_told : Fun K "_law_told" "_law_told" s_law_told a_law_told fd_law_told
  b_law_told : Binds K fd_law_told ["_law_four", "_law_many"] []
  g_law_told : mg "_law_told" = some (.ref a_law_told)
  a_law_counted : Addr
  fd_law_counted : FuncData
  F_law_counted : Fun K "_law_counted" "_law_counted" s_law_counted a_law_counted fd_law_counted
  b_law_counted : Binds K fd_law_counted ["_law_size", "_law_step", "_law_many"] []
  g_law_counted : mg "_law_counted" = some (.ref a_law_counted)
  a_law_stands : Addr
  fd_law_stands : FuncData
  F_law_stands : Fun K "_law_stands" "_law_stands" s_law_stands a_law_stands fd_law_stands
  b_law_stands : Binds K fd_law_stands ["_law_wheel", "_law_size", "_law_step", "_law_many"] []
  g_law_stands : mg "_law_stands" = some (.ref a_law_stands)
  a_law_manies : Addr
  fd_law_manies : FuncData
  F_law_manies : Fun K "_law_manies" "_law_manies" s_law_manies a_law_manies fd_law_manies
  b_law_manies : Binds K fd_law_manies ["_law_script", "_law_size", "_law_lap"] []
  g_law_manies : mg "_law_manies" = some (.ref a_law_manies)
  a_law_refused : Addr
  fd_law_refused : FuncData
  F_law_refused : Fun K "_law_refused" "_law_refused" s_law_refused a_law_refused fd_law_refused
  b_law_refused : Binds K fd_law_refused ["_law_wheel", "_law_many"] []
  g_law_refused : mg "_law_refused" = some (.ref a_law_refused)
  a_law : Addr
  fd_law : FuncData
  F_law : Fun K "law" "law" s_law a_law fd_law
  b_law : Binds K fd_law ["_law_script"] []
  g_law : mg "law" = some (.ref a_law)
  z_ValueError : mg "ValueError" = none
  z_sorted : mg "sorted" = none
  z_range : mg "range" = none
  z_list : mg "list" = none
  z_isinstance : mg "isinstance" = none
  z_int : mg "int" = none
  z_len : mg "len" = none
  z_bool : mg "bool" = none
  z_min : mg "min" = none
  z_tuple : mg "tuple" = none
  z_max : mg "max" = none
  z_abs : mg "abs" = none
def sp_law (K : PySem.W.Frag) : Sp := fun vs H Q _ => ∃ (a : Addr) (ns : List Int), vs = [.ref a] ∧ SqL K H a (ns.map V.int) ∧ ns.length ≤ 63 ∧ (∀ z ∈ ns, Builtin.Int.intBits z ≤ 1048576) ∧ ∀ H', Q (.bl true) H'
section
variable {P : Program} {w : World} {K : PySem.W.Frag} {mg : Str → Option Value} {base : Heap}
local macro_rules | `(tactic| walk_at "go") => `(tactic| repeat (first
  | (with_reducible first
    | refine g_seq ?_ | refine g_next ?_ | refine g_asg ?_ | refine g_name ?_ | refine g_c ?_ | refine g_op ?_ | refine g_un ?_ | refine g_rU ?_ | refine g_rI0 ?_ | refine g_eqI ?_ | refine g_neI ?_
    | refine g_ret ?_ | refine g_retN ?_ | refine g_drop ?_ | refine g_ifS ?_ | refine g_B ?_ | refine g_test ?_ | refine g_bl ?_ | refine g_and ?_ | refine g_or ?_ | refine g_not ?_ | refine g_andV ?_ | refine g_orV ?_ | refine g_notV ?_
    | refine g_cb ?_ | refine g_cons ?_ | refine g_nil ?_ | refine g_call ?_ | refine g_par ?_ | refine g_two ?_ | refine g_for ?_ | refine g_iL ?_ | refine g_iT ?_ | refine g_tup ?_ | refine g_lst ?_ | refine g_sfld ?_ | refine g_meth ?_ | refine g_make ?_ | refine g_sl ?_ | refine g_part ?_ | refine g_nopart ?_ | refine g_int ?_ | refine g_int1 ?_ | refine g_int2 ?_ | refine g_lc ?_ | refine g_gcons ?_ | refine g_gnil ?_ | refine g_iR1 ?_ | refine g_iR2 ?_ | refine g_isN ?_ | refine g_makeS ?_ | refine g_methS ?_ | refine g_callS ?_ | refine g_dnew ?_ | refine g_gsub ?_ | refine g_bm ?_ | refine g_makeN ?_)
  | ((with_reducible refine' g_var ?e1 ?_); (case e1 => exact rfl))
  | ((with_reducible refine g_mod ?e2 ?_); (case e2 => first | decide | omega))
  | ((with_reducible refine g_intN ?_))
  | ((with_reducible refine g_nT ?_))
  | ((with_reducible refine g_nF ?_))
  | ((with_reducible refine iteT ?_))
  | ((with_reducible refine iteF ?_))))
def sp_is_whole (_ : Txt K mg) : Sp := fun vs H Q _ => ∃ (v : V) (b : Bool), vs = [v] ∧ Kind K H v b ∧ Q (.bl b) H
theorem ok_is_whole (T : Txt K mg) : FnOk P w K mg base CX0 1 T.a_is_whole T.fd_is_whole ["thing"] (sp_is_whole T) := by
  refine T.F_is_whole.ok sc_is_whole (fun vs H Q E h => ?_) (fun cdv A outer s H vs Q E hr h => ?_)
  · obtain ⟨v, b, rfl, _⟩ := h
    rfl
  · obtain ⟨v, b, rfl, h⟩ := h
    refine ⟨_, pss_one (ps_ret (pe_and (pe_callB call_isi (by rfl) T.z_isinstance (by decide +kernel) (pa_cons (pv 0) (pa_cons (pe_bltn (v := .ty "int") (by rfl) T.z_int (by decide +kernel) rfl) pa_nil))) (pe_one (pe_not (pe_callB call_isi (by rfl) T.z_isinstance (by decide +kernel) (pa_cons (pv 0) (pa_cons (pe_bltn (v := .ty "bool") (by rfl) T.z_bool (by decide +kernel) rfl) pa_nil))))))), ?_⟩
    obtain ⟨⟨t, b1, b2, ty, k1, k2, rfl⟩, q⟩ := h
    walk_at "go"
    refine g_isi ty k1 ?_
    walk_at "go"
    cases b1 with
    | false => exact iteF q
    | true =>
      walk_at "go"
      refine g_isi ty k2 ?_
      walk_at "go"
      exact q
def sp_common (_ : Txt K mg) : Sp := fun vs H Q _ => ∃ a b : Int, vs = [.int a, .int b] ∧ 0 ≤ a ∧ 0 ≤ b ∧ Q (.int (Int.gcd a b)) H
theorem ok_common (T : Txt K mg) : FnOk P w K mg base CX0 1 T.a_common T.fd_common ["one", "other"] (sp_common T) := by
  refine T.F_common.ok sc_common (fun vs H Q E h => ?_) (fun cdv A outer s H vs Q E hr h => ?_)
  · obtain ⟨a, b, rfl, _⟩ := h
    rfl
  · obtain ⟨a, b, rfl, h⟩ := h
    refine ⟨_, pss_cons (ps_while PassesOwn.never (pt_cmpR op_gt (pv 1) pe_int (nomark _)) (pss_one (ps_par (i := 0) (j := 1) (by rfl) sc_common.nd rfl rfl (by decide) rfl rfl (pa_cons (pv 1) (pa_cons (pe_op op_mod (pv 0) (pv 1)) pa_nil)) (by rfl))))
 (pss_one (ps_ret (pv 0))), ?_⟩
    obtain ⟨ha, hb, q⟩ := h
    walk_at "go"
    refine g_while (fun m σ H' => ∃ x y : Int, σ = [some (.int x), some (.int y)] ∧ H' = H ∧ 0 ≤ x ∧ 0 ≤ y ∧ Int.gcd x y = Int.gcd a b ∧ m = y.toNat) _ ⟨a, b, rfl, rfl, ha, hb, rfl, rfl⟩ ?_
    rintro m σ H' ⟨x, y, rfl, rfl, hx, hy, hg, rfl⟩
    walk_at "go"
    refine g_dec (fun h => ?_) (fun h => ?_)
    · refine g_body ?_
      walk_at "go"
      exact ⟨_, Nat.lt_of_le_of_lt (Nat.le_of_eq rfl) (by have := Int.emod_lt_of_pos x h; have := Int.emod_nonneg x (show y ≠ 0 by omega); omega), y, x % y, rfl, rfl, hy, Int.emod_nonneg x (by omega), by rw [gcd_step hx h, hg], rfl⟩
    · walk_at "go"
      have e : y = 0 := by omega
      subst e
      rw [Int.gcd_zero_right] at hg
      have e2 : ((Int.gcd a b : Nat) : Int) = x := by omega
      rw [e2] at q
      exact q
/-! ### a wheel -/
def wflds (size step start lap : Int) : List (Str × V) := putF "lap" (.int lap) (putF "start" (.int start) (putF "step" (.int step) (putF "size" (.int size) [])))
theorem ne_st : ¬ (("size" : Str) = "lap") ∧ ¬ (("step" : Str) = "lap") ∧ ¬ (("start" : Str) = "lap") ∧ ¬ (("size" : Str) = "start") ∧ ¬ (("step" : Str) = "start") ∧ ¬ (("size" : Str) = "step") := by decide +kernel
theorem wf_lap (a b c d : Int) : (wflds a b c d).lookup ("lap" : Str) = some (V.int d) := by
  unfold wflds
  rw [lookup_putF, if_pos rfl]
theorem wf_start (a b c d : Int) : (wflds a b c d).lookup ("start" : Str) = some (V.int c) := by
  unfold wflds
  rw [lookup_putF, if_neg ne_st.2.2.1, lookup_putF, if_pos rfl]
theorem wf_step (a b c d : Int) : (wflds a b c d).lookup ("step" : Str) = some (V.int b) := by
  unfold wflds
  rw [lookup_putF, if_neg ne_st.2.1, lookup_putF, if_neg ne_st.2.2.2.2.1, lookup_putF, if_pos rfl]
theorem wf_size (a b c d : Int) : (wflds a b c d).lookup ("size" : Str) = some (V.int a) := by
  unfold wflds
  rw [lookup_putF, if_neg ne_st.1, lookup_putF, if_neg ne_st.2.2.2.1, lookup_putF, if_neg ne_st.2.2.2.2.2, lookup_putF, if_pos rfl]
theorem wf_none (a b c d : Int) {m : Str} (h : ¬ (m = ("lap" : Str)) ∧ ¬ (m = ("start" : Str)) ∧ ¬ (m = ("step" : Str)) ∧ ¬ (m = ("size" : Str))) : (wflds a b c d).lookup m = none := by
  unfold wflds
  rw [lookup_putF, if_neg h.1, lookup_putF, if_neg h.2.1, lookup_putF, if_neg h.2.2.1, lookup_putF, if_neg h.2.2.2]
  rfl
theorem fl1 {a : Str} {x : V} : (putF a x []).length < 1000 := by
  have h := length_putF a x []
  exact Nat.lt_of_le_of_lt h (by decide)
theorem fl2 {a b : Str} {x y : V} : (putF a x (putF b y [])).length < 1000 := by
  have h := length_putF a x (putF b y [])
  have h2 := length_putF b y []
  have e : ([] : List (Str × V)).length = 0 := rfl
  omega
theorem fl3 {a b c : Str} {x y z : V} : (putF a x (putF b y (putF c z []))).length < 1000 := by
  have h := length_putF a x (putF b y (putF c z []))
  have h2 := length_putF b y (putF c z [])
  have h3 := length_putF c z []
  have e : ([] : List (Str × V)).length = 0 := rfl
  omega
theorem lk_step {x y z : V} : (putF "start" x (putF "step" y (putF "size" z []))).lookup ("step" : Str) = some y := by
  rw [lookup_putF, if_neg ne_st.2.2.2.2.1, lookup_putF, if_pos rfl]
structure Whl (C : Addr) (H : Hp) (p : Addr) (size step start : Int) : Prop where
  ob : ∃ dx, H p = some (.ins C dx (wflds size step start (size / (Int.gcd size step : Int))))
  s1 : 1 ≤ size
  s2 : size ≤ 1000000000000000000000000000000000000000000000000000000000000
  t0 : 0 ≤ step
  t1 : step < size
  a0 : 0 ≤ start
  a1 : start < size
theorem Whl.same {C : Addr} {H H' : Hp} {p : Addr} {size step start : Int} (e : Same H H') (W : Whl C H p size step start) : Whl C H' p size step start := by
  obtain ⟨dx, h⟩ := W.ob
  exact ⟨⟨dx, e _ _ h⟩, W.s1, W.s2, W.t0, W.t1, W.a0, W.a1⟩
section
variable {T : Txt K mg} {σ : L2.St} {H : Hp} {Q : VK} {n : Nat} {p : Addr} {size step start : Int}
theorem g_size (W : Whl T.C_Wheel H p size step start) (hv : σ[n]? = some (some (.ref p))) (h : Q (.int size) H) : tFld K (tVar n) "size" σ H Q := by
  obtain ⟨dx, hp⟩ := W.ob
  exact g_fldV hv hp T.c_Wheel T.n_size (wf_size ..) h
theorem g_step (W : Whl T.C_Wheel H p size step start) (hv : σ[n]? = some (some (.ref p))) (h : Q (.int step) H) : tFld K (tVar n) "step" σ H Q := by
  obtain ⟨dx, hp⟩ := W.ob
  exact g_fldV hv hp T.c_Wheel T.n_step (wf_step ..) h
theorem g_start (W : Whl T.C_Wheel H p size step start) (hv : σ[n]? = some (some (.ref p))) (h : Q (.int start) H) : tFld K (tVar n) "start" σ H Q := by
  obtain ⟨dx, hp⟩ := W.ob
  exact g_fldV hv hp T.c_Wheel T.n_start (wf_start ..) h
theorem g_lap (W : Whl T.C_Wheel H p size step start) (hv : σ[n]? = some (some (.ref p))) (h : Q (.int (size / (Int.gcd size step : Int))) H) : tFld K (tVar n) "lap" σ H Q := by
  obtain ⟨dx, hp⟩ := W.ob
  exact g_fldV hv hp T.c_Wheel T.n_lap (wf_lap ..) h
end
local macro_rules | `(tactic| walk_at "gw") => `(tactic| repeat (first
  | (with_reducible first
    | refine g_seq ?_ | refine g_next ?_ | refine g_asg ?_ | refine g_name ?_ | refine g_c ?_ | refine g_op ?_ | refine g_un ?_ | refine g_rU ?_ | refine g_rI0 ?_ | refine g_eqI ?_ | refine g_neI ?_
    | refine g_ret ?_ | refine g_retN ?_ | refine g_drop ?_ | refine g_ifS ?_ | refine g_B ?_ | refine g_test ?_ | refine g_bl ?_ | refine g_and ?_ | refine g_or ?_ | refine g_not ?_ | refine g_andV ?_ | refine g_orV ?_ | refine g_notV ?_
    | refine g_cb ?_ | refine g_cons ?_ | refine g_nil ?_ | refine g_call ?_ | refine g_par ?_ | refine g_two ?_ | refine g_for ?_ | refine g_iL ?_ | refine g_iT ?_ | refine g_tup ?_ | refine g_lst ?_ | refine g_sfld ?_ | refine g_meth ?_ | refine g_make ?_ | refine g_sl ?_ | refine g_part ?_ | refine g_nopart ?_ | refine g_int ?_ | refine g_int1 ?_ | refine g_int2 ?_ | refine g_lc ?_ | refine g_gcons ?_ | refine g_gnil ?_ | refine g_iR1 ?_ | refine g_iR2 ?_ | refine g_isN ?_ | refine g_makeS ?_ | refine g_methS ?_ | refine g_callS ?_ | refine g_dnew ?_ | refine g_gsub ?_ | refine g_bm ?_ | refine g_makeN ?_)
  | ((with_reducible refine' g_var ?e1 ?_); (case e1 => exact rfl))
  | ((with_reducible refine g_mod ?e2 ?_); (case e2 => first | decide | omega))
  | ((with_reducible refine' g_size ?e4 ?e5 ?_); (case e5 => exact rfl); (case e4 => assumption))
  | ((with_reducible refine' g_step ?e4 ?e5 ?_); (case e5 => exact rfl); (case e4 => assumption))
  | ((with_reducible refine' g_start ?e4 ?e5 ?_); (case e5 => exact rfl); (case e4 => assumption))
  | ((with_reducible refine' g_lap ?e4 ?e5 ?_); (case e5 => exact rfl); (case e4 => assumption))
  | ((with_reducible refine g_intN ?_))
  | ((with_reducible refine g_nT ?_))
  | ((with_reducible refine g_nF ?_))
  | ((with_reducible refine iteT ?_))
  | ((with_reducible refine iteF ?_))))
def sp_Wheel_init (T : Txt K mg) : Sp := fun vs H Q E => ∃ (p : Addr) (v1 v2 v3 : V), vs = [.ref p, v1, v2, v3] ∧ (∃ dx, H p = some (.ins T.C_Wheel dx [])) ∧
  ((∃ size step start : Int, v1 = .int size ∧ v2 = .int step ∧ v3 = .int start ∧ (1 ≤ size ∧ size ≤ 1000000000000000000000000000000000000000000000000000000000000) ∧ (-1000000000000000000000000000000000000000000000000000000000000 ≤ step ∧ step ≤ 1000000000000000000000000000000000000000000000000000000000000) ∧ (-1000000000000000000000000000000000000000000000000000000000000 ≤ start ∧ start ≤ 1000000000000000000000000000000000000000000000000000000000000) ∧
      ∀ H', (∀ b o, H b = some o → b ≠ p → H' b = some o) → Whl T.C_Wheel H' p size (step % size) (start % size) → Q .non H') ∨
    ((Bad K H v1 1 1000000000000000000000000000000000000000000000000000000000000 ∨ ((∃ i, v1 = .int i ∧ 1 ≤ i ∧ i ≤ 1000000000000000000000000000000000000000000000000000000000000) ∧ (Bad K H v2 (-1000000000000000000000000000000000000000000000000000000000000) 1000000000000000000000000000000000000000000000000000000000000 ∨ ((∃ i, v2 = .int i ∧ -1000000000000000000000000000000000000000000000000000000000000 ≤ i ∧ i ≤ 1000000000000000000000000000000000000000000000000000000000000) ∧ Bad K H v3 (-1000000000000000000000000000000000000000000000000000000000000) 1000000000000000000000000000000000000000000000000000000000000)))) ∧ ∀ H', Same H H' → E (.ref T.C_NoWheel) none H'))
/-- what the loop over step and start asks of each -/
theorem init_bad {K : PySem.W.Frag} {H : Hp} {i : Int} (h : Bad K H (.int i) (-1000000000000000000000000000000000000000000000000000000000000) 1000000000000000000000000000000000000000000000000000000000000) : ¬ (-1000000000000000000000000000000000000000000000000000000000000 ≤ i ∧ i ≤ 1000000000000000000000000000000000000000000000000000000000000) := by
  rcases h with ⟨t, b1, b2, ty, k1, k2, e⟩ | ⟨j, e, h⟩
  · cases ty with
    | base z =>
      cases z with
      | int i =>
        rw [kit_ty (r := true) (by decide +kernel)] at k1
        rw [kit_ty (r := false) (by decide +kernel)] at k2
        cases k1
        cases k2
        cases e
  · cases e
    exact h
theorem ok_Wheel_init (T : Txt K mg) : FnOk P w K mg base (L2.CX P w) 2 T.a_Wheel_init T.fd_Wheel_init ["self", "size", "step", "start"] (sp_Wheel_init T) := by
  refine T.F_Wheel_init.ok sc_Wheel_init (fun vs H Q E h => ?_) (fun cdv A outer s H vs Q E hr h => ?_)
  · obtain ⟨p, v1, v2, v3, rfl, _⟩ := h
    rfl
  · obtain ⟨p, v1, v2, v3, rfl, h⟩ := h
    refine ⟨_, pss_cons (ps_if (PW.pt (pw_or (pt_not (pt_val (pe_call (ok_is_whole T) (hr.mono (by decide)) (by rfl) T.g_is_whole T.F_is_whole.kp T.b_is_whole .nil pass0 (pa_cons (pv 1) pa_nil)))) (pw_or (pt_cmpR op_lt (pv 1) pe_int (nomark _)) (pw_or1 (pt_cmpR op_gt (pv 1) (pe_lpow (v := 1000000000000000000000000000000000000000000000000000000000000) (pe_int) (pe_int) (by decide) (by decide +kernel)) (nomark _))))))
  (pss_one (ps_raise rfl (takes_of rfl rfl rfl rfl) (pmk_own PySem.F.excBase_ValueError T.x_NoWheel T.g_NoWheel T.k_NoWheel (raises_own T.eb_NoWheel T.et_NoWheel) rfl)))
  (pss_nil))
 (pss_cons (ps_for (passes_of rfl) rfl (pi_tup (pe_tup (pa_cons (pv 2) (pa_cons (pv 3) pa_nil)))) (pg_name (i := 4) sc_Wheel_init.nd rfl (.inl rfl)) (pss_one (ps_if (PW.pt (pw_or (pt_not (pt_val (pe_call (ok_is_whole T) (hr.mono (by decide)) (by rfl) T.g_is_whole T.F_is_whole.kp T.b_is_whole .nil pass0 (pa_cons (pv 4) pa_nil)))) (pw_or1 (pt_cmpR op_gt (pe_callB call_abs (by rfl) T.z_abs (by decide +kernel) (pa_cons (pv 4) pa_nil)) (pe_lpow (v := 1000000000000000000000000000000000000000000000000000000000000) (pe_int) (pe_int) (by decide) (by decide +kernel)) (nomark _)))))
  (pss_one (ps_raise rfl (takes_of rfl rfl rfl rfl) (pmk_own PySem.F.excBase_ValueError T.x_NoWheel T.g_NoWheel T.k_NoWheel (raises_own T.eb_NoWheel T.et_NoWheel) rfl)))
  (pss_nil))))
 (pss_cons (ps_fld (pv 0) (pv 1) rfl)
 (pss_cons (ps_fld (pv 0) (pe_op op_mod (pv 2) (pv 1)) rfl)
 (pss_cons (ps_fld (pv 0) (pe_op op_mod (pv 3) (pv 1)) rfl)
 (pss_one (ps_fld (pv 0) (pe_op op_fdivW (pv 1) (pe_call (ok_common T) (hr.mono (by decide)) (by rfl) T.g_common T.F_common.kp T.b_common .nil pass0 (pa_cons (pv 1) (pa_cons (pe_fld (pv 0) rfl) pa_nil)))) rfl)))))), ?_⟩
    obtain ⟨⟨dx, hp⟩, h⟩ := h
    rcases h with ⟨size, step, start, rfl, rfl, rfl, hs, ht, ha, q⟩ | ⟨h, q⟩
    · walk_at "go"
      refine ⟨_, true, rfl, kind_int, ?_⟩
      walk_at "go"
      refine g_decF (by omega) ?_
      walk_at "go"
      refine g_decF (by omega) ?_
      walk_at "go"
      refine g_len (by simp) fun pt npt => ?_
      have s1 : Same H (upd H pt (.tup [.int step, .int start])) := same_upd npt
      have npp : p ≠ pt := ne_of_none hp npt
      refine g_overT (SqT.of upd_same) (fun i σ H' => ∃ y, σ = [some (.ref p), some (.int size), some (.int step), some (.int start), y] ∧ H' = upd H pt (.tup [.int step, .int start])) ⟨_, rfl, rfl⟩ (fun i σ' H' _ h => ?_) ?_ ?_
      · obtain ⟨_, _, rfl⟩ := h
        exact SqT.of upd_same
      · rintro i x σ' H' hx ⟨y, rfl, rfl⟩
        obtain ⟨z, rfl, hz⟩ : ∃ z : Int, x = .int z ∧ -1000000000000000000000000000000000000000000000000000000000000 ≤ z ∧ z ≤ 1000000000000000000000000000000000000000000000000000000000000 := by
          match i, hx with
          | 0, hx => exact ⟨step, (Option.some.inj hx).symm, ht⟩
          | 1, hx => exact ⟨start, (Option.some.inj hx).symm, ha⟩
        walk_at "go"
        refine ⟨_, true, rfl, kind_int, ?_⟩
        walk_at "go"
        refine g_decF (by split <;> omega) ?_
        walk_at "go"
        exact ⟨_, rfl, rfl⟩
      · rintro σ' H' ⟨y, rfl, rfl⟩
        walk_at "go"
        refine ⟨p, T.C_Wheel, dx, [], rfl, s1 _ _ hp, T.c_Wheel, T.n_size, small6 (by simp), ?_⟩
        walk_at "go"
        refine ⟨p, T.C_Wheel, dx, _, rfl, upd_same, T.c_Wheel, T.n_step, fl1, ?_⟩
        walk_at "go"
        refine ⟨p, T.C_Wheel, dx, _, rfl, upd_same, T.c_Wheel, T.n_start, fl2, ?_⟩
        walk_at "go"
        refine g_fldV rfl upd_same T.c_Wheel T.n_step lk_step ?_
        walk_at "go"
        have t0 := Int.emod_nonneg step (show size ≠ 0 by omega)
        have t1 := Int.emod_lt_of_pos step (show 0 < size by omega)
        have a0 := Int.emod_nonneg start (show size ≠ 0 by omega)
        have a1 := Int.emod_lt_of_pos start (show 0 < size by omega)
        refine ⟨_, _, rfl, by omega, t0, ?_⟩
        have g0 : 0 < Int.gcd size (step % size) := Int.gcd_pos_of_ne_zero_left _ (by omega)
        have g1 : ((Int.gcd size (step % size) : Nat) : Int) ≤ size := Int.le_of_dvd (by omega) (Int.gcd_dvd_left ..)
        refine g_div (divW (by omega) (by omega)) ?_
        walk_at "go"
        refine ⟨p, T.C_Wheel, dx, _, rfl, upd_same, T.c_Wheel, T.n_lap, fl3, ?_⟩
        refine q _ (fun b o e hb => ?_) ⟨⟨dx, upd_same⟩, hs.1, hs.2, t0, t1, a0, a1⟩
        rw [upd_ne hb, upd_ne hb, upd_ne hb, upd_ne hb]
        exact s1 _ _ e
    · rcases h with h | ⟨⟨size, rfl, hs⟩, h⟩
      · rcases h with hk | ⟨i, rfl, hi⟩
        · walk_at "go"
          refine ⟨_, false, rfl, hk, ?_⟩
          walk_at "go"
          exact q H (Same.refl H)
        · walk_at "go"
          refine ⟨_, true, rfl, kind_int, ?_⟩
          walk_at "go"
          refine g_dec (fun _ => ?_) (fun _ => ?_)
          · walk_at "go"
            exact q H (Same.refl H)
          · walk_at "go"
            refine g_decT (by omega) ?_
            exact q H (Same.refl H)
      · walk_at "go"
        refine ⟨_, true, rfl, kind_int, ?_⟩
        walk_at "go"
        refine g_decF (by omega) ?_
        walk_at "go"
        refine g_decF (by omega) ?_
        walk_at "go"
        refine g_len (by simp) fun pt npt => ?_
        have s1 : Same H (upd H pt (.tup [v2, v3])) := same_upd npt
        refine g_overT (SqT.of upd_same) (fun i σ H' => (i = 0 ∨ (i = 1 ∧ (∃ z, v2 = .int z ∧ -1000000000000000000000000000000000000000000000000000000000000 ≤ z ∧ z ≤ 1000000000000000000000000000000000000000000000000000000000000) ∧ Bad K H v3 (-1000000000000000000000000000000000000000000000000000000000000) 1000000000000000000000000000000000000000000000000000000000000)) ∧ ∃ y, σ = [some (.ref p), some (.int size), some v2, some v3, y] ∧ H' = upd H pt (.tup [v2, v3])) ⟨.inl rfl, _, rfl, rfl⟩ (fun i σ' H' _ h => ?_) ?_ ?_
        · obtain ⟨_, _, _, rfl⟩ := h
          exact SqT.of upd_same
        · rintro i x σ' H' hx ⟨hi, y, rfl, rfl⟩
          -- one of the two: it is fine and the other one bad, or it is bad
          have hx2 : (∃ z, x = .int z ∧ (-1000000000000000000000000000000000000000000000000000000000000 ≤ z ∧ z ≤ 1000000000000000000000000000000000000000000000000000000000000) ∧ i = 0 ∧ v2 = .int z ∧ Bad K H v3 (-1000000000000000000000000000000000000000000000000000000000000) 1000000000000000000000000000000000000000000000000000000000000) ∨ Bad K H x (-1000000000000000000000000000000000000000000000000000000000000) 1000000000000000000000000000000000000000000000000000000000000 := by
            rcases hi with rfl | ⟨rfl, _, hb⟩
            · have e : v2 = x := Option.some.inj hx
              subst e
              rcases h with h | ⟨⟨z, rfl, hz⟩, hb⟩
              · exact .inr h
              · exact .inl ⟨z, rfl, hz, rfl, rfl, hb⟩
            · have e : v3 = x := Option.some.inj hx
              subst e
              exact .inr hb
          rcases hx2 with ⟨z, rfl, hz, rfl, rfl, hb⟩ | hb
          · walk_at "go"
            refine ⟨_, true, rfl, kind_int, ?_⟩
            walk_at "go"
            refine g_decF (by split <;> omega) ?_
            walk_at "go"
            exact ⟨.inr ⟨rfl, ⟨z, rfl, hz⟩, hb⟩, _, rfl, rfl⟩
          · rcases hb with hk | ⟨z, rfl, hz⟩
            · walk_at "go"
              refine ⟨_, false, rfl, Kind.same s1 hk, ?_⟩
              walk_at "go"
              exact q _ s1
            · walk_at "go"
              refine ⟨_, true, rfl, kind_int, ?_⟩
              walk_at "go"
              refine g_decT (by split <;> omega) ?_
              exact q _ s1
        · rintro σ' H' ⟨hi, _⟩
          rcases hi with hi | ⟨hi, _⟩ <;> simp at hi
def lapOf (size step : Int) : Int := size / (Int.gcd size step : Int)
theorem lap_le {size step : Int} (h : 0 < size) : 1 ≤ lapOf size step ∧ lapOf size step ≤ size := by
  have L := Lap.mk' (step := step) h
  have h1 := L.e
  have h2 := mul_ge L.g1 (show 0 ≤ size / (Int.gcd size step : Int) by have := L.l1; omega)
  rw [Int.mul_comm] at h2
  exact ⟨L.l1, by unfold lapOf; omega⟩
def sp_need_first (T : Txt K mg) : Sp := fun vs H Q E => ∃ (p : Addr) (v : V) (least size step start : Int), vs = [.ref p, v, .int least] ∧ Whl T.C_Wheel H p size step start ∧
  ((∃ i, v = .int i ∧ least ≤ i ∧ i ≤ lapOf size step ∧ Q .non H) ∨ (Bad K H v least (lapOf size step) ∧ E (.ref T.C_NoBeats) none H))
theorem ok_need_first (T : Txt K mg) : FnOk P w K mg base (L2.CX P w) 2 T.a_need_first T.fd_need_first ["wheel", "many", "least"] (sp_need_first T) := by
  refine T.F_need_first.okX sc_need_first (fun vs H Q E h => ?_) (fun cdv A outer s H vs Q E hr h => ?_)
  · obtain ⟨p, v, least, size, step, start, rfl, _⟩ := h
    rfl
  · obtain ⟨p, v, least, size, step, start, rfl, h⟩ := h
    refine ⟨_, pss_one (ps_if (PW.pt (pw_or (pt_not (pt_val (pe_call (ok_is_whole T) (hr.mono (by decide)) (by rfl) T.g_is_whole T.F_is_whole.kp T.b_is_whole .nil pass0 (pa_cons (pv 1) pa_nil)))) (pw_or (pt_cmpR op_lt (pv 1) (pv 2) (nomark _)) (pw_or1 (pt_cmpR op_gt (pv 1) (pe_fld (pv 0) rfl) (nomark _))))))
  (pss_one (ps_raise rfl (takes_of rfl rfl rfl rfl) (pmk_own PySem.F.excBase_ValueError T.x_NoBeats T.g_NoBeats T.k_NoBeats (raises_own T.eb_NoBeats T.et_NoBeats) rfl)))
  (pss_nil)), ?_⟩
    obtain ⟨W, h⟩ := h
    rcases h with ⟨i, rfl, h1, h2, q⟩ | ⟨hk, q⟩
    · walk_at "gw"
      refine ⟨_, true, rfl, kind_int, ?_⟩
      walk_at "gw"
      refine g_decF (by omega) ?_
      walk_at "gw"
      refine g_decF (show ¬ lapOf size step < i by omega) ?_
      walk_at "gw"
      exact q
    · rcases hk with hk | ⟨i, rfl, hi⟩
      · walk_at "gw"
        refine ⟨_, false, rfl, hk, ?_⟩
        walk_at "gw"
        exact q
      · walk_at "gw"
        refine ⟨_, true, rfl, kind_int, ?_⟩
        walk_at "gw"
        refine g_dec (fun _ => ?_) (fun _ => ?_)
        · walk_at "gw"
          exact q
        · walk_at "gw"
          refine g_decT (show lapOf size step < i by omega) ?_
          exact q
/-- the four are told at q4 -/
def sp_around (T : Txt K mg) : Sp := fun vs H Q E => ∃ (p : Addr) (v : V) (size step start : Int), vs = [.ref p, v] ∧ Whl T.C_Wheel H p size step start ∧
  ((∃ many, v = .int many ∧ 2 ≤ many ∧ many ≤ lapOf size step ∧ ∀ (q4 : Addr) (H' : Hp) (a n b k : Int), Same H H' → Told size step many a n b k → H' q4 = some (.tup [.int a, .int n, .int b, .int k]) → H q4 = none → Q (.ref q4) H') ∨ (Bad K H v 2 (lapOf size step) ∧ E (.ref T.C_NoBeats) none H))
theorem ok_around (T : Txt K mg) : FnOk P w K mg base (L2.CX P w) 3 T.a_around T.fd_around ["wheel", "many"] (sp_around T) := by
  refine T.F_around.okX sc_around (fun vs H Q E h => ?_) (fun cdv A outer s H vs Q E hr h => ?_)
  · obtain ⟨p, v, size, step, start, rfl, _⟩ := h
    rfl
  · obtain ⟨p, v, size, step, start, rfl, h⟩ := h
    refine ⟨_, pss_cons (ps_expr (pe_call (ok_need_first T) (hr.mono (by decide)) (by rfl) T.g_need_first T.F_need_first.kp T.b_need_first .nil (passes_call (takes_of rfl rfl rfl rfl) (fun _ _ _ _ h => h)) (pa_cons (pv 0) (pa_cons (pv 1) (pa_cons pe_int pa_nil)))))
 (pss_cons (ps_set (i := 2) sc_around.nd rfl (.inl rfl) pe_int)
 (pss_cons (ps_set (i := 3) sc_around.nd rfl (.inl rfl) (pe_fld (pv 0) rfl))
 (pss_cons (ps_set (i := 4) sc_around.nd rfl (.inl rfl) pe_int)
 (pss_cons (ps_set (i := 5) sc_around.nd rfl (.inl rfl) (pe_op op_sub (pe_fld (pv 0) rfl) (pe_fld (pv 0) rfl)))
 (pss_cons (ps_while (passes_of rfl) (pt_cmpR op_lt (pe_op op_add (pv 2) (pv 4)) (pv 1) (nomark _)) (pss_one (ps_if (pt_cmpR op_gt (pv 3) (pv 5) (nomark _))
  (pss_cons (ps_set (i := 6) sc_around.nd rfl (.inl rfl) (pe_callB (call_min2 (by rfl)) (by rfl) T.z_min (by decide +kernel) (pa_cons (pe_op op_fdivW (pe_op op_sub (pv 3) pe_int) (pv 5)) (pa_cons (pe_op op_fdivW (pe_op op_sub (pe_op op_sub (pv 1) pe_int) (pv 2)) (pv 4)) pa_nil))))
 (pss_cons (ps_set (i := 2) sc_around.nd rfl (.inl rfl) (pe_op op_add (pv 2) (pe_op op_mulB (pv 6) (pv 4))))
 (pss_one (ps_set (i := 3) sc_around.nd rfl (.inl rfl) (pe_op op_sub (pv 3) (pe_op op_mulB (pv 6) (pv 5)))))))
  (pss_cons (ps_set (i := 6) sc_around.nd rfl (.inl rfl) (pe_callB (call_min2 (by rfl)) (by rfl) T.z_min (by decide +kernel) (pa_cons (pe_op op_fdivW (pe_op op_sub (pv 5) pe_int) (pv 3)) (pa_cons (pe_op op_fdivW (pe_op op_sub (pe_op op_sub (pv 1) pe_int) (pv 4)) (pv 2)) pa_nil))))
 (pss_cons (ps_set (i := 4) sc_around.nd rfl (.inl rfl) (pe_op op_add (pv 4) (pe_op op_mulB (pv 6) (pv 2))))
 (pss_one (ps_set (i := 5) sc_around.nd rfl (.inl rfl) (pe_op op_sub (pv 5) (pe_op op_mulB (pv 6) (pv 3))))))))))
 (pss_one (ps_ret (pe_tup (pa_cons (pv 2) (pa_cons (pv 3) (pa_cons (pv 4) (pa_cons (pv 5) pa_nil)))))))))))), ?_⟩
    obtain ⟨W, h⟩ := h
    have w1 := W.s1
    have w2 := W.s2
    have w3 := W.t0
    have w4 := W.t1
    walk_at "gw"
    rcases h with ⟨many, rfl, h1, h2, q⟩ | ⟨hk, q⟩
    · refine ⟨p, _, 2, size, step, start, rfl, W, .inl ⟨many, rfl, h1, h2, ?_⟩⟩
      walk_at "gw"
      have L : Lap size step (lapOf size step) (Int.gcd size step : Int) := Lap.mk' (by omega)
      have hl := lap_le (size := size) (step := step) (by omega)
      have st1 : 1 ≤ step := by
        apply Decidable.byContradiction
        intro c
        have e : step = 0 := by omega
        have := L.ge (d := 1) (by rw [e]; exact ⟨0, by omega⟩) (by decide)
        omega
      refine g_while (fun m σ H' => ∃ (a n b k : Int) (w : Option V), σ = [some (.ref p), some (.int many), some (.int a), some (.int n), some (.int b), some (.int k), w] ∧ H' = H ∧ Four size step a n b k ∧ a < many ∧ b < many ∧ m = (many - a - b).toNat) _
        ⟨1, step, 1, size - step, none, rfl, rfl, four_start st1 w4, by omega, by omega, rfl⟩ ?_
      rintro m σ H' ⟨a, n, b, k, w, rfl, rfl, F, ha, hb, rfl⟩
      have f1 := F.p1
      have f2 := F.n1
      have f3 := F.b1
      have f4 := F.k1
      have fl := F.lt
      walk_at "gw"
      refine g_dec (fun hm => ?_) (fun hm => ?_)
      · refine g_body ?_
        walk_at "gw"
        refine g_dec (fun hc => ?_) (fun hc => ?_)
        · obtain ⟨t, ht⟩ : ∃ t, t = if (many - 1 - a) / b < (n - 1) / k then (many - 1 - a) / b else (n - 1) / k := ⟨_, rfl⟩
          obtain ⟨t1, F2, x1, x2, x3, x4⟩ := around1 F hc hm ha ht
          walk_at "gw"
          refine g_div (divW (by omega) (by omega)) ?_
          walk_at "gw"
          refine g_div (divW (by omega) (by omega)) ?_
          walk_at "gw"
          rw [← ht]
          walk_at "gw"
          refine g_mul (mulB (by omega) (by omega)) ?_
          walk_at "gw"
          refine g_mul (mulB (by omega) (by omega)) ?_
          walk_at "gw"
          exact ⟨_, by omega, a + t * b, n - t * k, b, k, _, rfl, rfl, F2, x1, hb, rfl⟩
        · obtain ⟨t, ht⟩ : ∃ t, t = if (many - 1 - b) / a < (k - 1) / n then (many - 1 - b) / a else (k - 1) / n := ⟨_, rfl⟩
          obtain ⟨t1, F2, x1, x2, x3, x4⟩ := around2 F L hc hm h2 hb ht
          walk_at "gw"
          refine g_div (divW (by omega) (by omega)) ?_
          walk_at "gw"
          refine g_div (divW (by omega) (by omega)) ?_
          walk_at "gw"
          rw [← ht]
          walk_at "gw"
          refine g_mul (mulB (by omega) (by omega)) ?_
          walk_at "gw"
          refine g_mul (mulB (by omega) (by omega)) ?_
          walk_at "gw"
          exact ⟨_, by omega, a, n, b + t * a, k - t * n, _, rfl, rfl, F2, ha, x1, rfl⟩
      · walk_at "gw"
        refine g_len (by simp) fun pq nq => ?_
        exact q pq _ a n b k (same_upd nq) ⟨F, ha, hb, by omega⟩ upd_same nq
    · exact ⟨p, _, 2, size, step, start, rfl, W, .inr ⟨hk, q⟩⟩
/-- the rows told: one gap for one beat, else by the four -/
def GapRows (size step many : Int) (qs : List (Int × Int)) : Prop := (many = 1 ∧ qs = [(size, 1)]) ∨ ∃ a n b k, Told size step many a n b k ∧ Tab (cntOf a n b k many) qs
def sp_gaps (T : Txt K mg) : Sp := fun vs H Q E => ∃ (p : Addr) (v : V) (size step start : Int), vs = [.ref p, v] ∧ Whl T.C_Wheel H p size step start ∧
  ((∃ many, v = .int many ∧ 1 ≤ many ∧ many ≤ lapOf size step ∧ ∀ (l : Addr) (H' : Hp) (qs : List (Int × Int)), Same H H' → H l = none → RowsAt H' l qs → GapRows size step many qs → Q (.ref l) H') ∨ (Bad K H v 1 (lapOf size step) ∧ E (.ref T.C_NoBeats) none H))
theorem ok_gaps (T : Txt K mg) : FnOk P w K mg base (L2.CX P w) 4 T.a_gaps T.fd_gaps ["wheel", "many"] (sp_gaps T) := by
  refine T.F_gaps.okX sc_gaps (fun vs H Q E h => ?_) (fun cdv A outer s H vs Q E hr h => ?_)
  · obtain ⟨p, v, size, step, start, rfl, _⟩ := h
    rfl
  · obtain ⟨p, v, size, step, start, rfl, h⟩ := h
    refine ⟨_, pss_cons (ps_expr (pe_call (ok_need_first T) (hr.mono (by decide)) (by rfl) T.g_need_first T.F_need_first.kp T.b_need_first .nil (passes_call (takes_of rfl rfl rfl rfl) (fun _ _ _ _ h => h)) (pa_cons (pv 0) (pa_cons (pv 1) (pa_cons pe_int pa_nil)))))
 (pss_cons (ps_if (pt_cmpR op_eq (pv 1) pe_int (nomark _))
  (pss_one (ps_ret (pe_lst (pa_cons (pe_tup (pa_cons (pe_fld (pv 0) rfl) (pa_cons pe_int pa_nil))) pa_nil))))
  (pss_nil))
 (pss_cons (ps_asg (pe_call (ok_around T) (hr.mono (by decide)) (by rfl) T.g_around T.F_around.kp T.b_around .nil (passes_call (takes_of rfl rfl rfl rfl) (fun _ _ _ _ h => h)) (pa_cons (pv 0) (pa_cons (pv 1) pa_nil))) (pg_tup (by rfl) (pgs_cons (pg_name (i := 2) sc_gaps.nd rfl (.inl rfl)) (pgs_cons (pg_name (i := 3) sc_gaps.nd rfl (.inl rfl)) (pgs_cons (pg_name (i := 4) sc_gaps.nd rfl (.inl rfl)) (pgs_cons (pg_name (i := 5) sc_gaps.nd rfl (.inl rfl)) (pgs_nil)))))))
 (pss_cons (ps_set (i := 6) sc_gaps.nd rfl (.inl rfl) (pe_disp (pps_cons (pv 3) (pe_op op_sub (pv 1) (pv 2)) pps_nil) rfl rfl (List.cons_ne_nil _ _) (by decide)))
 (pss_cons (ps_dput (hu_of hr) (pv 6) (pv 5) (pe_op op_sub (pe_op op_add (pe_dget2 (hu_of hr) (pv 6) (pv 5) pe_int ⟨rfl, rfl, rfl, rfl⟩) (pv 1)) (pv 4)) rfl)
 (Evl.pss_cut (ps_if (pt_cmpR op_gt (pe_op op_add (pv 2) (pv 4)) (pv 1) (nomark _))
  (pss_one (ps_dput (hu_of hr) (pv 6) (pe_op op_add (pv 3) (pv 5)) (pe_op op_sub (pe_op op_add (pv 2) (pv 4)) (pv 1)) rfl))
  (pss_nil))
 (pss_one (ps_ret (pe_callB (cr_sortedItemsI (by rfl)) (by rfl) T.z_sorted (by decide +kernel) (pa_cons (pe_bm0 PySem.F.plainAttrs_dict PySem.F.slot_dict_items PySem.F.type_dict_items mt_itemsK (pv 6)) pa_nil))))))))), ?_⟩
    obtain ⟨W, h⟩ := h
    walk_at "gw"
    rcases h with ⟨many, rfl, h1, h2, q⟩ | ⟨hk, q⟩
    · refine ⟨p, _, 1, size, step, start, rfl, W, .inl ⟨many, rfl, h1, h2, ?_⟩⟩
      walk_at "gw"
      refine g_dec (fun hm => ?_) (fun hm => ?_)
      · walk_at "gw"
        refine g_len (by simp) fun pt nt => ?_
        walk_at "gw"
        refine g_len (by simp) fun pl nl => ?_
        have s1 : Same H (upd H pt (.tup [.int size, .int 1])) := same_upd nt
        have e1 : (upd H pt (.tup [.int size, .int 1])) pt = some (.tup [.int size, .int 1]) := upd_same
        generalize upd H pt (.tup [.int size, .int 1]) = H1 at s1 e1 nl
        refine q pl _ [(size, 1)] (s1.trans (same_upd nl)) (s1.free nl) ⟨[pt], upd_same, rfl, fun i x hx => ?_⟩ (.inl ⟨hm, rfl⟩)
        match i, hx with
        | 0, hx =>
          cases hx
          exact ⟨pt, rfl, same_upd nl _ _ e1⟩
      · walk_at "gw"
        refine ⟨p, _, size, step, start, rfl, W, .inl ⟨many, rfl, by omega, h2, fun q4 H1 a n b k s1 Tq e4 _ => ?_⟩⟩
        walk_at "gw"
        refine g_gtup (SqT.of e4) rfl ?_
        walk_at "gw"
        refine g_disp1 fun pd nd => ?_
        walk_at "gw"
        refine g_dispI upd_same ?_
        rw [merge1]
        have s2 : Same H1 (upd (upd H1 pd (.dK [])) pd (.dK ([(n, many - a)].map iEnt))) := same_mut nd (same_upd nd)
        have e2 : (upd (upd H1 pd (.dK [])) pd (.dK ([(n, many - a)].map iEnt))) pd = some (.dK ([(n, many - a)].map iEnt)) := upd_same
        generalize upd (upd H1 pd (.dK [])) pd (.dK ([(n, many - a)].map iEnt)) = H2 at s2 e2
        walk_at "gw"
        refine g_dp ?_
        walk_at "gw"
        refine g_dg ?_
        walk_at "gw"
        refine g_isd e2 ?_
        walk_at "gw"
        refine g_dgI e2 fun o eo => ?_
        rw [eo]
        walk_at "gw"
        refine g_dpI e2 (by simp) ?_
        have tab := Tq.table rfl
        generalize (getI [(n, many - a)] k).getD 0 + many - b = u at tab ⊢
        have l3 := putI_len [(n, many - a)] k u
        simp only [List.length_singleton] at l3
        generalize putI [(n, many - a)] k u = es at tab l3 ⊢
        have s3 : Same H1 (upd H2 pd (.dK (es.map iEnt))) := same_mut nd s2
        have e3 : (upd H2 pd (.dK (es.map iEnt))) pd = some (.dK (es.map iEnt)) := upd_same
        generalize upd H2 pd (.dK (es.map iEnt)) = H3 at s3 e3
        walk_at "gw"
        refine g_cut (Mid := fun σ' H' => ∃ es, σ' = [some (.ref p), some (.int many), some (.int a), some (.int n), some (.int b), some (.int k), some (.ref pd)] ∧ Same H1 H' ∧ H' pd = some (.dK (es.map iEnt)) ∧ es.length ≤ 3 ∧ Has (cntOf a n b k many) es) ?_ ?_
        · walk_at "gw"
          refine g_dec (fun hg => ?_) (fun hg => ?_)
          · walk_at "gw"
            refine g_dp ?_
            walk_at "gw"
            refine g_dpI e3 (by omega) ?_
            have := putI_len es (n + k) (a + b - many)
            exact ⟨_, rfl, same_mut nd s3, upd_same, by omega, tab.2 hg⟩
          · walk_at "gw"
            exact ⟨_, rfl, s3, e3, by omega, tab.1 hg⟩
        · rintro σ' H4 ⟨es, rfl, s4, e4', l4, hH⟩
          walk_at "gw"
          refine g_items ?_
          walk_at "gw"
          refine g_itemsI e4' fun pi ni => ?_
          walk_at "gw"
          have s5 : Same H4 (upd H4 pi (L2.DX.itemsO pi pd)) := same_upd ni
          refine ⟨pi, pd, es, rfl, upd_same, s5 _ _ e4', fun H5 l ts qs s6 hp hs nl el hl hr => ?_⟩
          have sA := (s1.trans s4).trans s5
          refine q l H5 qs (sA.trans s6) (sA.free nl) ⟨ts, el, hl, hr⟩ (.inr ⟨a, n, b, k, Tq, hH.sorted hp (hs.imp fun {x y} h z => ?_)⟩)
          rw [SrtO.lexB_iff.mpr z] at h
          exact Bool.noConfusion h
    · exact ⟨p, _, 1, size, step, start, rfl, W, .inr ⟨hk, q⟩⟩
def sp_law_cell_at (_ : Txt K mg) : Sp := fun vs H Q _ => ∃ (a : Addr) (ns : List Int) (k : Int), vs = [.ref a, .int k] ∧ SqL K H a (ns.map V.int) ∧ 0 ≤ k ∧ Q (.int (cellAt ns k)) H
theorem ok_law_cell_at (T : Txt K mg) : FnOk P w K mg base CX0 1 T.a_law_cell_at T.fd_law_cell_at ["_law_script", "_law_k"] (sp_law_cell_at T) := by
  refine T.F_law_cell_at.ok sc_law_cell_at (fun vs H Q E h => ?_) (fun cdv A outer s H vs Q E hr h => ?_)
  · obtain ⟨a, ns, k, rfl, _⟩ := h
    rfl
  · obtain ⟨a, ns, k, rfl, h⟩ := h
    refine ⟨_, pss_cons (ps_if (pt_cmpR op_lt (pv 1) (pe_callB call_len_seq (by rfl) T.z_len (by decide +kernel) (pa_cons (pv 0) pa_nil)) (nomark _))
  (pss_one (ps_ret (pe_ix ix_list (pv 0) (pv 1) (fun _ _ => rfl))))
  (pss_nil))
 (pss_one (ps_ret pe_int)), ?_⟩
    obtain ⟨hS, h0, q⟩ := h
    walk_at "go"
    refine ⟨a, _, rfl, .inl hS, ?_⟩
    walk_at "go"
    rw [List.length_map]
    refine g_dec (fun hk => ?_) (fun hk => ?_)
    · walk_at "go"
      have hl : k.toNat < ns.length := by omega
      have e : k = ((k.toNat : Nat) : Int) := by omega
      have e2 : atI (ns.map V.int) k = some (.int (cellAt ns k)) := by
        rw [e]
        refine atI_nat ?_
        unfold cellAt
        rw [List.getElem?_map, show ((k.toNat : Nat) : Int).toNat = k.toNat from by omega, List.getElem?_eq_getElem hl]
        rfl
      refine g_ixL hS e2 ?_
      exact q
    · walk_at "go"
      have e2 : cellAt ns k = 0 := by
        unfold cellAt
        rw [List.getElem?_eq_none (by omega)]
        rfl
      rw [e2] at q
      exact q
def sp_law_whole (_ : Txt K mg) : Sp := fun vs H Q _ => ∃ (v : V) (b : Bool), vs = [v] ∧ Kind K H v b ∧ Q (.bl b) H
theorem ok_law_whole (T : Txt K mg) : FnOk P w K mg base CX0 1 T.a_law_whole T.fd_law_whole ["_law_found"] (sp_law_whole T) := by
  refine T.F_law_whole.ok sc_law_whole (fun vs H Q E h => ?_) (fun cdv A outer s H vs Q E hr h => ?_)
  · obtain ⟨v, b, rfl, _⟩ := h
    rfl
  · obtain ⟨v, b, rfl, h⟩ := h
    refine ⟨_, pss_one (ps_ret (pe_and (pe_callB call_isi (by rfl) T.z_isinstance (by decide +kernel) (pa_cons (pv 0) (pa_cons (pe_bltn (v := .ty "int") (by rfl) T.z_int (by decide +kernel) rfl) pa_nil))) (pe_one (pe_not (pe_callB call_isi (by rfl) T.z_isinstance (by decide +kernel) (pa_cons (pv 0) (pa_cons (pe_bltn (v := .ty "bool") (by rfl) T.z_bool (by decide +kernel) rfl) pa_nil))))))), ?_⟩
    obtain ⟨⟨t, b1, b2, ty, k1, k2, rfl⟩, q⟩ := h
    walk_at "go"
    refine g_isi ty k1 ?_
    walk_at "go"
    cases b1 with
    | false => exact iteF q
    | true =>
      walk_at "go"
      refine g_isi ty k2 ?_
      walk_at "go"
      exact q
def sp_law_divisor (_ : Txt K mg) : Sp := fun vs H Q _ => ∃ a b : Int, vs = [.int a, .int b] ∧ 0 ≤ a ∧ 0 ≤ b ∧ Q (.int (Int.gcd a b)) H
theorem ok_law_divisor (T : Txt K mg) : FnOk P w K mg base CX0 1 T.a_law_divisor T.fd_law_divisor ["_law_one", "_law_other"] (sp_law_divisor T) := by
  refine T.F_law_divisor.ok sc_law_divisor (fun vs H Q E h => ?_) (fun cdv A outer s H vs Q E hr h => ?_)
  · obtain ⟨a, b, rfl, _⟩ := h
    rfl
  · obtain ⟨a, b, rfl, h⟩ := h
    refine ⟨_, pss_cons (ps_while PassesOwn.never (pt_cmpR op_gt (pv 1) pe_int (nomark _)) (pss_cons (ps_set (i := 2) sc_law_divisor.nd rfl (.inl rfl) (pe_op op_mod (pv 0) (pv 1)))
 (pss_cons (ps_set (i := 0) sc_law_divisor.nd rfl (.inl rfl) (pv 1))
 (pss_one (ps_set (i := 1) sc_law_divisor.nd rfl (.inl rfl) (pv 2))))))
 (pss_one (ps_ret (pv 0))), ?_⟩
    obtain ⟨ha, hb, q⟩ := h
    walk_at "go"
    refine g_while (fun m σ H' => ∃ (x y : Int) (w : Option V), σ = [some (.int x), some (.int y), w] ∧ H' = H ∧ 0 ≤ x ∧ 0 ≤ y ∧ Int.gcd x y = Int.gcd a b ∧ m = y.toNat) _ ⟨a, b, none, rfl, rfl, ha, hb, rfl, rfl⟩ ?_
    rintro m σ H' ⟨x, y, w, rfl, rfl, hx, hy, hg, rfl⟩
    walk_at "go"
    refine g_dec (fun h => ?_) (fun h => ?_)
    · refine g_body ?_
      walk_at "go"
      exact ⟨_, Nat.lt_of_le_of_lt (Nat.le_of_eq rfl) (by have := Int.emod_lt_of_pos x h; have := Int.emod_nonneg x (show y ≠ 0 by omega); omega), y, x % y, _, rfl, rfl, hy, Int.emod_nonneg x (by omega), by rw [gcd_step hx h, hg], rfl⟩
    · walk_at "go"
      have e : y = 0 := by omega
      subst e
      rw [Int.gcd_zero_right] at hg
      have e2 : ((Int.gcd a b : Nat) : Int) = x := by omega
      rw [e2] at q
      exact q
def sp_law_signed (_ : Txt K mg) : Sp := fun vs H Q _ => ∃ c share : Int, vs = [.int c, .int share] ∧ 1 ≤ share ∧ share ≤ 1000000000000000000000000000000000000000000000000000000000000 ∧ ∀ r, -1000000000000000000000000000000000000000000000000000000000000 ≤ r → r ≤ 1000000000000000000000000000000000000000000000000000000000000 → Q (.int r) H
theorem ok_law_signed (T : Txt K mg) : FnOk P w K mg base CX0 1 T.a_law_signed T.fd_law_signed ["_law_cell", "_law_share"] (sp_law_signed T) := by
  refine T.F_law_signed.ok sc_law_signed (fun vs H Q E h => ?_) (fun cdv A outer s H vs Q E hr h => ?_)
  · obtain ⟨c, share, rfl, _⟩ := h
    rfl
  · obtain ⟨c, share, rfl, h⟩ := h
    refine ⟨_, pss_cons (ps_set (i := 2) sc_law_signed.nd rfl (.inl rfl) (pe_op op_fdivW (pe_lpow (v := 1000000000000000000000000000000000000000000000000000000000000) (pe_int) (pe_int) (by decide) (by decide +kernel)) (pv 1)))
 (pss_cons (ps_set (i := 3) sc_law_signed.nd rfl (.inl rfl) (pe_op op_mulB (pv 1) (pe_op op_mod (pe_op op_fdivW (pv 0) pe_int) (pe_op op_add (pv 2) pe_int))))
 (pss_cons (ps_if (pt_cmpR op_eq (pe_op op_mod (pv 0) pe_int) pe_int (nomark _))
  (pss_one (ps_ret (pe_op op_sub pe_int (pv 3))))
  (pss_nil))
 (pss_one (ps_ret (pv 3))))), ?_⟩
    obtain ⟨h1, h2, q⟩ := h
    walk_at "go"
    refine g_div (divW (by omega) (by omega)) ?_
    have m0 : 0 ≤ 1000000000000000000000000000000000000000000000000000000000000 / share := Int.ediv_nonneg (by decide) (by omega)
    have m1 : share * (1000000000000000000000000000000000000000000000000000000000000 / share) ≤ 1000000000000000000000000000000000000000000000000000000000000 := Int.mul_ediv_self_le (by omega)
    have m2 := (ediv_bd h1 (show -1000000000000000000000000000000000000000000000000000000000000 ≤ 1000000000000000000000000000000000000000000000000000000000000 by decide) (Int.le_refl _) (by decide)).2
    generalize 1000000000000000000000000000000000000000000000000000000000000 / share = m at m0 m1 m2
    walk_at "go"
    refine g_div (divW (by decide) (by decide)) ?_
    walk_at "go"
    have h0 := Int.emod_nonneg (c / 2) (show m + 1 ≠ 0 by omega)
    have h1' := Int.emod_lt_of_pos (c / 2) (show 0 < m + 1 by omega)
    generalize c / 2 % (m + 1) = y at h0 h1'
    have b0 : 0 ≤ share * y := Int.mul_nonneg (by omega) h0
    have b1 : share * y ≤ share * m := Int.mul_le_mul_of_nonneg_left (by omega) (by omega)
    refine g_mul (mulB (by omega) (by omega)) ?_
    walk_at "go"
    refine g_dec (fun hk => ?_) (fun hk => ?_)
    · walk_at "go"
      exact q _ (by omega) (by omega)
    · walk_at "go"
      exact q _ (by omega) (by omega)
def sp_law_drawn (_ : Txt K mg) : Sp := fun vs H Q _ => ∃ (a : Addr) (ns : List Int), vs = [.ref a] ∧ SqL K H a (ns.map V.int) ∧ BitsOk ns ∧
  ∀ (p : Addr) (H' : Hp) (size step start : Int), Same H H' → H' p = some (.lst [.int size, .int step, .int start]) → H p = none → (1 ≤ size ∧ size ≤ 1000000000000000000000000000000000000000000000000000000000000) → (-1000000000000000000000000000000000000000000000000000000000000 ≤ step ∧ step ≤ 1000000000000000000000000000000000000000000000000000000000000) → (-1000000000000000000000000000000000000000000000000000000000000 ≤ start ∧ start ≤ 1000000000000000000000000000000000000000000000000000000000000) → Q (.ref p) H'
theorem ok_law_drawn (T : Txt K mg) : FnOk P w K mg base CX0 2 T.a_law_drawn T.fd_law_drawn ["_law_script"] (sp_law_drawn T) := by
  refine T.F_law_drawn.ok sc_law_drawn (fun vs H Q E h => ?_) (fun cdv A outer s H vs Q E hr h => ?_)
  · obtain ⟨a, ns, rfl, _⟩ := h
    rfl
  · obtain ⟨a, ns, rfl, h⟩ := h
    refine ⟨_, pss_cons (ps_set (i := 1) sc_law_drawn.nd rfl (.inl rfl) (pe_op op_mod (pe_call (ok_law_cell_at T) (hr.mono (by decide)) (by rfl) T.g_law_cell_at T.F_law_cell_at.kp T.b_law_cell_at .nil pass0 (pa_cons (pv 0) (pa_cons pe_int pa_nil))) pe_int))
 (pss_cons (ps_set (i := 2) sc_law_drawn.nd rfl (.inl rfl) pe_int)
 (Evl.pss_cut (ps_if (pt_cmpR op_eq (pe_op op_mod (pe_op op_fdivW (pe_call (ok_law_cell_at T) (hr.mono (by decide)) (by rfl) T.g_law_cell_at T.F_law_cell_at.kp T.b_law_cell_at .nil pass0 (pa_cons (pv 0) (pa_cons pe_int pa_nil))) pe_int) pe_int) pe_int (nomark _))
  (pss_one (ps_set (i := 2) sc_law_drawn.nd rfl (.inl rfl) (pe_op op_add pe_int (pe_op op_mod (pe_call (ok_law_cell_at T) (hr.mono (by decide)) (by rfl) T.g_law_cell_at T.F_law_cell_at.kp T.b_law_cell_at .nil pass0 (pa_cons (pv 0) (pa_cons pe_int pa_nil))) (pe_ix ix_list (pe_lst (pa_cons pe_int (pa_cons (pe_lpow (v := 1000000000) (pe_int) (pe_int) (by decide) (by decide +kernel)) (pa_cons (pe_lpow (v := 1000000000) (pe_int) (pe_int) (by decide) (by decide +kernel)) (pa_cons (pe_lpow (v := 1000000000000000000000000000000) (pe_int) (pe_int) (by decide) (by decide +kernel)) pa_nil))))) (pv 1) (fun _ _ => rfl))))))
  (pss_nil))
 (pss_cons (ps_set (i := 3) sc_law_drawn.nd rfl (.inl rfl) (pe_ix ix_list (pe_lst (pa_cons pe_int (pa_cons (pe_lpow (v := 1000000000000000000) (pe_int) (pe_int) (by decide) (by decide +kernel)) (pa_cons (pe_lpow (v := 1000000000000000000) (pe_int) (pe_int) (by decide) (by decide +kernel)) (pa_cons (pe_lpow (v := 1000000000000000000000000000000000000000000000000000000000000) (pe_int) (pe_int) (by decide) (by decide +kernel)) pa_nil))))) (pv 1) (fun _ _ => rfl)))
 (pss_cons (ps_set (i := 4) sc_law_drawn.nd rfl (.inl rfl) (pe_op op_mulB (pv 2) (pe_op op_add pe_int (pe_op op_mod (pe_op op_mulB (pe_call (ok_law_cell_at T) (hr.mono (by decide)) (by rfl) T.g_law_cell_at T.F_law_cell_at.kp T.b_law_cell_at .nil pass0 (pa_cons (pv 0) (pa_cons pe_int pa_nil))) (pe_ladd (pe_lpow (v := 1000000000000000000000000000000000000000000000) (pe_int) (pe_int) (by decide) (by decide +kernel)) (pe_int) (v := 1000000000000000000000000000000000000000000007) (by decide +kernel))) (pe_op op_fdivW (pv 3) (pv 2))))))
 (pss_one (ps_ret (pe_lst (pa_cons (pv 4) (pa_cons (pe_call (ok_law_signed T) (hr.mono (by decide)) (by rfl) T.g_law_signed T.F_law_signed.kp T.b_law_signed .nil pass0 (pa_cons (pe_call (ok_law_cell_at T) (hr.mono (by decide)) (by rfl) T.g_law_cell_at T.F_law_cell_at.kp T.b_law_cell_at .nil pass0 (pa_cons (pv 0) (pa_cons pe_int pa_nil))) (pa_cons (pv 2) pa_nil))) (pa_cons (pe_call (ok_law_signed T) (hr.mono (by decide)) (by rfl) T.g_law_signed T.F_law_signed.kp T.b_law_signed .nil pass0 (pa_cons (pe_call (ok_law_cell_at T) (hr.mono (by decide)) (by rfl) T.g_law_cell_at T.F_law_cell_at.kp T.b_law_cell_at .nil pass0 (pa_cons (pv 0) (pa_cons pe_int pa_nil))) (pa_cons pe_int pa_nil))) pa_nil)))))))))), ?_⟩
    obtain ⟨hS, hb, q⟩ := h
    walk_at "go"
    refine ⟨a, ns, 0, rfl, hS, by decide, ?_⟩
    walk_at "go"
    have w0 := Int.emod_nonneg (cellAt ns 0) (show (4 : Int) ≠ 0 by decide)
    have w1 := Int.emod_lt_of_pos (cellAt ns 0) (show (0 : Int) < 4 by decide)
    generalize cellAt ns 0 % 4 = way at w0 w1
    refine g_cut (Mid := fun σ' H' => ∃ share : Int, σ' = [some (.ref a), some (.int way), some (.int share), none, none] ∧ Same H H' ∧ 1 ≤ share ∧ share ≤ 1000000000000000000000000000000 ∧ (way = 0 → share ≤ 6) ∧ (way = 1 ∨ way = 2 → share ≤ 1000000000)) ?_ ?_
    · walk_at "go"
      refine ⟨a, ns, 0, rfl, hS, by decide, ?_⟩
      walk_at "go"
      refine g_div (divW (by decide) (by decide)) ?_
      walk_at "go"
      refine g_dec (fun _ => ?_) (fun _ => ?_)
      · walk_at "go"
        refine ⟨a, ns, 4, rfl, hS, by decide, ?_⟩
        walk_at "go"
        refine g_len (by simp) fun pl nl => ?_
        walk_at "go"
        obtain ⟨m, em, hm⟩ : ∃ m, atI ([6, 1000000000, 1000000000, 1000000000000000000000000000000].map V.int) way = some (.int m) ∧ 1 ≤ m ∧ m ≤ 1000000000000000000000000000000 ∧ (way = 0 → m ≤ 6) ∧ (way = 1 ∨ way = 2 → m ≤ 1000000000) := by
          have hw : way = 0 ∨ way = 1 ∨ way = 2 ∨ way = 3 := by omega
          rcases hw with rfl | rfl | rfl | rfl
          · exact ⟨6, rfl, by decide⟩
          · exact ⟨1000000000, rfl, by decide⟩
          · exact ⟨1000000000, rfl, by decide⟩
          · exact ⟨1000000000000000000000000000000, rfl, by decide⟩
        refine g_ixL (SqL.of upd_same) em ?_
        refine g_mod (by omega) ?_
        have z0 := Int.emod_nonneg (cellAt ns 4) (show m ≠ 0 by omega)
        have z1 := Int.emod_lt_of_pos (cellAt ns 4) (show 0 < m by omega)
        walk_at "go"
        exact ⟨_, rfl, same_upd nl, by omega, by omega, by omega, by omega⟩
      · walk_at "go"
        exact ⟨1, rfl, Same.refl H, by decide, by decide, by omega, by omega⟩
    · rintro σ' H1 ⟨share, rfl, s1, h1, h2, h3, h4⟩
      walk_at "go"
      refine g_len (by simp) fun pl nl => ?_
      walk_at "go"
      obtain ⟨top, em, hm⟩ : ∃ m, atI ([40, 1000000000000000000, 1000000000000000000, 1000000000000000000000000000000000000000000000000000000000000].map V.int) way = some (.int m) ∧ share ≤ m ∧ m ≤ 1000000000000000000000000000000000000000000000000000000000000 := by
        have hw : way = 0 ∨ way = 1 ∨ way = 2 ∨ way = 3 := by omega
        rcases hw with rfl | rfl | rfl | rfl
        · exact ⟨40, rfl, by omega, by omega⟩
        · exact ⟨1000000000000000000, rfl, by omega, by omega⟩
        · exact ⟨1000000000000000000, rfl, by omega, by omega⟩
        · exact ⟨1000000000000000000000000000000000000000000000000000000000000, rfl, by omega, by omega⟩
      refine g_ixL (SqL.of upd_same) em ?_
      have s2 := s1.trans (same_upd (o := .lst [.int 40, .int 1000000000000000000, .int 1000000000000000000, .int 1000000000000000000000000000000000000000000000000000000000000]) nl)
      generalize upd H1 pl (.lst [.int 40, .int 1000000000000000000, .int 1000000000000000000, .int 1000000000000000000000000000000000000000000000000000000000000]) = H2 at s2
      walk_at "go"
      refine ⟨a, ns, 1, rfl, s2.seq hS, by decide, ?_⟩
      walk_at "go"
      refine g_mul (cell_mul hb (by decide)) ?_
      walk_at "go"
      refine g_div (divW (by omega) (by omega)) ?_
      have m0 : 1 ≤ top / share := (Int.le_ediv_iff_mul_le (by omega)).mpr (by omega)
      have m1 : share * (top / share) ≤ top := Int.mul_ediv_self_le (by omega)
      have m2 := (ediv_bd h1 (show -1000000000000000000000000000000000000000000000000000000000000 ≤ top by omega) hm.2 (by decide)).2
      generalize top / share = m at m0 m1 m2
      refine g_mod (by omega) ?_
      have z0 := Int.emod_nonneg (cellAt ns 1 * 1000000000000000000000000000000000000000000007) (show m ≠ 0 by omega)
      have z1 := Int.emod_lt_of_pos (cellAt ns 1 * 1000000000000000000000000000000000000000000007) (show 0 < m by omega)
      generalize cellAt ns 1 * 1000000000000000000000000000000000000000000007 % m = z at z0 z1
      walk_at "go"
      have b0 : share * (1 + z) ≤ share * m := Int.mul_le_mul_of_nonneg_left (by omega) (by omega)
      have b1 : share * 1 ≤ share * (1 + z) := Int.mul_le_mul_of_nonneg_left (by omega) (by omega)
      refine g_mul (mulB (by omega) (by omega)) ?_
      walk_at "go"
      refine ⟨a, ns, 2, rfl, s2.seq hS, by decide, ?_⟩
      walk_at "go"
      refine ⟨_, share, rfl, h1, by omega, fun st t0 t1 => ?_⟩
      walk_at "go"
      refine ⟨a, ns, 3, rfl, s2.seq hS, by decide, ?_⟩
      walk_at "go"
      refine ⟨_, 1, rfl, by decide, by decide, fun sa a0 a1 => ?_⟩
      walk_at "go"
      refine g_len (by simp) fun pr nr => ?_
      exact q pr _ _ _ _ (s2.trans (same_upd nr)) upd_same (s2.free nr) ⟨by omega, by omega⟩ ⟨t0, t1⟩ ⟨a0, a1⟩
theorem dvd_any {size step a n : Int} (h : size ∣ a * (step % size) - n) : size ∣ a * step - n := by
  obtain ⟨c, hc⟩ := h
  refine ⟨c + a * (step / size), ?_⟩
  have := Int.emod_add_mul_ediv step size
  grind
theorem dvd_any' {size step b k : Int} (h : size ∣ b * (step % size) + k) : size ∣ b * step + k := by
  obtain ⟨c, hc⟩ := h
  refine ⟨c + b * (step / size), ?_⟩
  have := Int.emod_add_mul_ediv step size
  grind
def sp_law_shown (_ : Txt K mg) : Sp := fun vs H Q _ => ∃ (p : Addr) (size step many a n b k : Int), vs = [.ref p, .int size, .int step, .int many] ∧ H p = some (.tup [.int a, .int n, .int b, .int k]) ∧ Told size (step % size) many a n b k ∧
  (1 ≤ size ∧ size ≤ 1000000000000000000000000000000000000000000000000000000000000) ∧ (-1000000000000000000000000000000000000000000000000000000000000 ≤ step ∧ step ≤ 1000000000000000000000000000000000000000000000000000000000000) ∧ many ≤ 1000000000000000000000000000000000000000000000000000000000000 ∧ Q (.bl true) H
theorem ok_law_shown (T : Txt K mg) : FnOk P w K mg base CX0 2 T.a_law_shown T.fd_law_shown ["_law_found", "_law_size", "_law_step", "_law_many"] (sp_law_shown T) := by
  refine T.F_law_shown.ok sc_law_shown (fun vs H Q E h => ?_) (fun cdv A outer s H vs Q E hr h => ?_)
  · obtain ⟨p, size, step, many, a, n, b, k, rfl, _⟩ := h
    rfl
  · obtain ⟨p, size, step, many, a, n, b, k, rfl, h⟩ := h
    refine ⟨_, pss_cons (ps_if (PW.pt (pw_or (pt_not (pt_val (pe_callB call_isi (by rfl) T.z_isinstance (by decide +kernel) (pa_cons (pv 0) (pa_cons (pe_bltn (v := .ty "tuple") (by rfl) T.z_tuple (by decide +kernel) rfl) pa_nil))))) (pw_or1 (pt_cmpR op_ne (pe_callB call_len_seq (by rfl) T.z_len (by decide +kernel) (pa_cons (pv 0) pa_nil)) pe_int (nomark _)))))
  (pss_one (ps_ret pe_bl))
  (pss_nil))
 (pss_cons (ps_for PassesOwn.never rfl (pi_tup (pv 0)) (pg_name (i := 4) sc_law_shown.nd rfl (.inl rfl)) (pss_one (ps_if (PW.pt (pw_or (pt_not (pt_val (pe_call (ok_law_whole T) (hr.mono (by decide)) (by rfl) T.g_law_whole T.F_law_whole.kp T.b_law_whole .nil pass0 (pa_cons (pv 4) pa_nil)))) (pw_or1 (pt_cmpR op_lt (pv 4) pe_int (nomark _)))))
  (pss_one (ps_ret pe_bl))
  (pss_nil))))
 (pss_cons (ps_asg (pv 0) (pg_tup (by rfl) (pgs_cons (pg_name (i := 5) sc_law_shown.nd rfl (.inl rfl)) (pgs_cons (pg_name (i := 6) sc_law_shown.nd rfl (.inl rfl)) (pgs_cons (pg_name (i := 7) sc_law_shown.nd rfl (.inl rfl)) (pgs_cons (pg_name (i := 8) sc_law_shown.nd rfl (.inl rfl)) (pgs_nil)))))))
 (pss_cons (ps_if (PW.pt (pw_or (pt_cmpR op_ge (pe_callB (call_max2 (by rfl)) (by rfl) T.z_max (by decide +kernel) (pa_cons (pv 5) (pa_cons (pv 7) pa_nil))) (pv 3) (nomark _)) (pw_or1 (pt_cmpR op_lt (pe_op op_add (pv 5) (pv 7)) (pv 3) (nomark _)))))
  (pss_one (ps_ret pe_bl))
  (pss_nil))
 (pss_cons (ps_if (PW.pt (pw_or (pt_cmpR op_ne (pe_op op_mod (pe_op op_sub (pe_op op_mulB (pv 5) (pv 2)) (pv 6)) (pv 1)) pe_int (nomark _)) (pw_or1 (pt_cmpR op_ne (pe_op op_mod (pe_op op_add (pe_op op_mulB (pv 7) (pv 2)) (pv 8)) (pv 1)) pe_int (nomark _)))))
  (pss_one (ps_ret pe_bl))
  (pss_nil))
 (pss_one (ps_ret (pe_cmpR op_eq (pe_op op_add (pe_op op_mulB (pv 7) (pv 6)) (pe_op op_mulB (pv 5) (pv 8))) (pv 1) (nomark _)))))))), ?_⟩
    obtain ⟨hp, Tq, hs, ht, hm, q⟩ := h
    have f1 := Tq.f.p1
    have f2 := Tq.f.n1
    have f3 := Tq.f.b1
    have f4 := Tq.f.k1
    have fl := Tq.f.lt
    have c1 := Tq.pm
    have c2 := Tq.bm
    have c3 := Tq.all
    walk_at "go"
    refine g_isi (.base (.tup hp)) (kit_ty (r := true) (by decide +kernel)) ?_
    walk_at "go"
    refine ⟨p, _, rfl, .inr (SqT.of hp), ?_⟩
    walk_at "go"
    refine g_ndec (fun c => absurd rfl c) (fun _ => ?_)
    walk_at "go"
    refine g_overT (SqT.of hp) (fun i σ' H' => ∃ v4, σ' = [some (.ref p), some (.int size), some (.int step), some (.int many), v4, none, none, none, none] ∧ H' = H) ⟨_, rfl, rfl⟩ (fun i σ' H' _ h => ?_) ?_ ?_
    · obtain ⟨_, _, rfl⟩ := h
      exact SqT.of hp
    · rintro i x σ' H' hx ⟨v4, rfl, rfl⟩
      obtain ⟨z, rfl, hz⟩ : ∃ z : Int, x = .int z ∧ 1 ≤ z := by
        have hmem := List.mem_of_getElem? hx
        simp only [List.mem_cons, List.not_mem_nil, or_false] at hmem
        rcases hmem with rfl | rfl | rfl | rfl
        · exact ⟨_, rfl, f1⟩
        · exact ⟨_, rfl, f2⟩
        · exact ⟨_, rfl, f3⟩
        · exact ⟨_, rfl, f4⟩
      walk_at "go"
      refine ⟨_, true, rfl, kind_int, ?_⟩
      walk_at "go"
      refine g_decF (by omega) ?_
      walk_at "go"
      exact ⟨_, rfl, rfl⟩
    · rintro σ' H' ⟨v4, rfl, rfl⟩
      walk_at "go"
      refine g_gtup (SqT.of hp) rfl ?_
      walk_at "go"
      refine g_decF (by split <;> omega) ?_
      walk_at "go"
      refine g_decF (by omega) ?_
      walk_at "go"
      refine g_mul (mulB (by omega) (by omega)) ?_
      walk_at "go"
      refine g_ndec (fun c => absurd (Int.emod_eq_zero_of_dvd (dvd_any Tq.f.hp)) c) (fun _ => ?_)
      walk_at "go"
      refine g_mul (mulB (by omega) (by omega)) ?_
      walk_at "go"
      refine g_ndec (fun c => absurd (Int.emod_eq_zero_of_dvd (dvd_any' Tq.f.hb)) c) (fun _ => ?_)
      walk_at "go"
      refine g_mul (mulB (by omega) (by omega)) ?_
      walk_at "go"
      refine g_mul (mulB (by omega) (by omega)) ?_
      walk_at "go"
      rw [decide_eq_true Tq.f.det]
      exact q
def sp_law_good (_ : Txt K mg) : Sp := fun vs H Q _ => ∃ (l : Addr) (size many : Int) (qs : List (Int × Int)), vs = [.ref l, .int size, .int many] ∧ RowsAt H l qs ∧ GoodRows size many qs ∧ (1 ≤ size ∧ size ≤ 1000000000000000000000000000000000000000000000000000000000000) ∧ (1 ≤ many ∧ many ≤ 1000000000000000000000000000000000000000000000000000000000000) ∧ Q (.bl true) H
theorem ok_law_good (T : Txt K mg) : FnOk P w K mg base CX0 2 T.a_law_good T.fd_law_good ["_law_found", "_law_size", "_law_many"] (sp_law_good T) := by
  refine T.F_law_good.ok sc_law_good (fun vs H Q E h => ?_) (fun cdv A outer s H vs Q E hr h => ?_)
  · obtain ⟨l, size, many, qs, rfl, _⟩ := h
    rfl
  · obtain ⟨l, size, many, qs, rfl, h⟩ := h
    refine ⟨_, pss_cons (ps_if (PW.pt (pw_or (pt_not (pt_val (pe_callB call_isi (by rfl) T.z_isinstance (by decide +kernel) (pa_cons (pv 0) (pa_cons (pe_bltn (v := .ty "list") (by rfl) T.z_list (by decide +kernel) rfl) pa_nil))))) (pw_or (pt_cmpR op_lt (pe_callB call_len_seq (by rfl) T.z_len (by decide +kernel) (pa_cons (pv 0) pa_nil)) pe_int (nomark _)) (pw_or1 (pt_cmpR op_gt (pe_callB call_len_seq (by rfl) T.z_len (by decide +kernel) (pa_cons (pv 0) pa_nil)) pe_int (nomark _))))))
  (pss_one (ps_ret pe_bl))
  (pss_nil))
 (pss_cons (ps_set (i := 3) sc_law_good.nd rfl (.inl rfl) pe_int)
 (pss_cons (ps_set (i := 4) sc_law_good.nd rfl (.inl rfl) pe_int)
 (pss_cons (ps_set (i := 5) sc_law_good.nd rfl (.inl rfl) pe_int)
 (pss_cons (ps_for PassesOwn.never rfl (pi_list (pv 0)) (pg_name (i := 6) sc_law_good.nd rfl (.inl rfl)) (pss_cons (ps_if (PW.pt (pw_or (pt_not (pt_val (pe_callB call_isi (by rfl) T.z_isinstance (by decide +kernel) (pa_cons (pv 6) (pa_cons (pe_bltn (v := .ty "tuple") (by rfl) T.z_tuple (by decide +kernel) rfl) pa_nil))))) (pw_or (pt_cmpR op_ne (pe_callB call_len_seq (by rfl) T.z_len (by decide +kernel) (pa_cons (pv 6) pa_nil)) pe_int (nomark _)) (pw_or (pt_not (pt_val (pe_call (ok_law_whole T) (hr.mono (by decide)) (by rfl) T.g_law_whole T.F_law_whole.kp T.b_law_whole .nil pass0 (pa_cons (pe_ix ix_tup (pv 6) pe_int (fun _ _ => rfl)) pa_nil)))) (pw_or1 (pt_not (pt_val (pe_call (ok_law_whole T) (hr.mono (by decide)) (by rfl) T.g_law_whole T.F_law_whole.kp T.b_law_whole .nil pass0 (pa_cons (pe_ix ix_tup (pv 6) pe_int (fun _ _ => rfl)) pa_nil)))))))))
  (pss_one (ps_ret pe_bl))
  (pss_nil))
 (pss_cons (ps_if (PW.pt (pw_or (pt_cmpR op_le (pe_ix ix_tup (pv 6) pe_int (fun _ _ => rfl)) (pv 3) (nomark _)) (pw_or1 (pt_cmpR op_lt (pe_ix ix_tup (pv 6) pe_int (fun _ _ => rfl)) pe_int (nomark _)))))
  (pss_one (ps_ret pe_bl))
  (pss_nil))
 (pss_cons (ps_set (i := 3) sc_law_good.nd rfl (.inl rfl) (pe_ix ix_tup (pv 6) pe_int (fun _ _ => rfl)))
 (pss_cons (ps_set (i := 4) sc_law_good.nd rfl (.inl rfl) (pe_op op_add (pv 4) (pe_ix ix_tup (pv 6) pe_int (fun _ _ => rfl))))
 (pss_one (ps_set (i := 5) sc_law_good.nd rfl (.inl rfl) (pe_op op_add (pv 5) (pe_op op_mulB (pe_ix ix_tup (pv 6) pe_int (fun _ _ => rfl)) (pe_ix ix_tup (pv 6) pe_int (fun _ _ => rfl)))))))))))
 (pss_cons (ps_if (PW.pt (pw_and (pt_cmpR op_eq (pe_callB call_len_seq (by rfl) T.z_len (by decide +kernel) (pa_cons (pv 0) pa_nil)) pe_int (nomark _)) (pw_and1 (pt_cmpR op_ne (pe_ix ix_tup (pe_ix ix_list (pv 0) pe_int (fun _ _ => rfl)) pe_int (fun _ _ => rfl)) (pe_op op_add (pe_ix ix_tup (pe_ix ix_list (pv 0) pe_int (fun _ _ => rfl)) pe_int (fun _ _ => rfl)) (pe_ix ix_tup (pe_ix ix_list (pv 0) pe_int (fun _ _ => rfl)) pe_int (fun _ _ => rfl))) (nomark _)))))
  (pss_one (ps_ret pe_bl))
  (pss_nil))
 (pss_one (ps_ret (pe_and (pe_cmpR op_eq (pv 4) (pv 2) (nomark _)) (pe_one (pe_cmpR op_eq (pv 5) (pv 1) (nomark _))))))))))), ?_⟩
    obtain ⟨R, G, hs, hm, q⟩ := h
    obtain ⟨ts, el, hl, hr⟩ := R
    have g1 := G.l1
    have g3 := G.l3
    walk_at "go"
    refine g_isi (.base (.lst el)) (kit_ty (r := true) (by decide +kernel)) ?_
    walk_at "go"
    refine ⟨l, _, rfl, .inl (SqL.of el), ?_⟩
    walk_at "go"
    refine g_decF (by rw [List.length_map]; omega) ?_
    walk_at "go"
    refine ⟨l, _, rfl, .inl (SqL.of el), ?_⟩
    walk_at "go"
    refine g_decF (by rw [List.length_map]; omega) ?_
    walk_at "go"
    refine g_overL (SqL.of el) (fun i σ' H' => ∃ (last : Int) (v6 : Option V), σ' = [some (.ref l), some (.int size), some (.int many), some (.int last), some (.int ((qs.take i).map (·.2)).sum), some (.int ((qs.take i).map fun q => q.1 * q.2).sum), v6] ∧ H' = H ∧ ∀ q ∈ qs.drop i, last < q.1)
      ⟨0, _, rfl, rfl, fun q hq => by have := (G.pos q hq).1; omega⟩ (fun i σ' H' _ h => ?_) ?_ ?_
    · obtain ⟨_, _, _, rfl, _⟩ := h
      exact SqL.of el
    · rintro i x σ' H' hx ⟨last, v6, rfl, rfl, hlast⟩
      obtain ⟨t, ht, rfl⟩ := map_at hx
      have hi : i < qs.length := by
        have := (List.getElem?_eq_some_iff.mp ht).1
        omega
      have hq : qs[i]? = some qs[i] := List.getElem?_eq_getElem hi
      obtain ⟨t', ht', et⟩ := hr i _ hq
      rw [ht] at ht'
      cases ht'
      have hmem : qs[i] ∈ qs := List.getElem_mem hi
      have hp := G.pos _ hmem
      have hdrop : qs.drop i = qs[i] :: qs.drop (i + 1) := List.drop_eq_getElem_cons hi
      have hlt := hlast qs[i] (by rw [hdrop]; exact List.mem_cons_self)
      have hup : ∀ q ∈ qs.drop (i + 1), qs[i].1 < q.1 := by
        have := G.up.drop (i := i)
        rw [hdrop] at this
        exact (List.pairwise_cons.mp this).1
      have ht1 : (qs.take (i + 1)) = qs.take i ++ [qs[i]] := take_succ' hq
      generalize qs[i] = q0 at *
      obtain ⟨w, c⟩ := q0
      dsimp only at et hp hlt hup
      walk_at "go"
      refine g_isi (.base (.tup et)) (kit_ty (r := true) (by decide +kernel)) ?_
      walk_at "go"
      refine ⟨t, _, rfl, .inr (SqT.of et), ?_⟩
      walk_at "go"
      refine g_ndec (fun c => absurd rfl c) (fun _ => ?_)
      walk_at "go"
      refine g_ixT (SqT.of et) (v := .int w) rfl ?_
      walk_at "go"
      refine ⟨_, true, rfl, kind_int, ?_⟩
      walk_at "go"
      refine g_ixT (SqT.of et) (v := .int c) rfl ?_
      walk_at "go"
      refine ⟨_, true, rfl, kind_int, ?_⟩
      walk_at "go"
      refine g_ixT (SqT.of et) (v := .int w) rfl ?_
      walk_at "go"
      refine g_decF (by omega) ?_
      walk_at "go"
      refine g_ixT (SqT.of et) (v := .int c) rfl ?_
      walk_at "go"
      refine g_decF (by omega) ?_
      walk_at "go"
      refine g_ixT (SqT.of et) (v := .int w) rfl ?_
      walk_at "go"
      refine g_ixT (SqT.of et) (v := .int c) rfl ?_
      walk_at "go"
      refine g_ixT (SqT.of et) (v := .int w) rfl ?_
      walk_at "go"
      refine g_ixT (SqT.of et) (v := .int c) rfl ?_
      walk_at "go"
      refine g_mul (mulB (by omega) (by omega)) ?_
      walk_at "go"
      refine ⟨w, some (.ref t), ?_, rfl, hup⟩
      rw [ht1, List.map_append, List.map_append, List.sum_append, List.sum_append, List.map_singleton, List.map_singleton, List.sum_singleton, List.sum_singleton]
      rfl
    · rintro σ' H' ⟨last, v6, rfl, rfl, _⟩
      rw [List.length_map, hl, List.take_length, G.beats, G.width]
      walk_at "go"
      refine ⟨l, _, rfl, .inl (SqL.of el), ?_⟩
      walk_at "go"
      have fin : (fun v H1 => Q v H1) (V.bl (decide (size = size))) H' := by
        rw [decide_eq_true rfl]
        exact q
      refine g_dec (fun h3 => ?_) (fun _ => ?_)
      · rw [List.length_map, hl] at h3
        obtain ⟨x, y, z, rfl⟩ : ∃ x y z, qs = [x, y, z] := by
          match qs, h3 with
          | [x, y, z], _ => exact ⟨x, y, z, rfl⟩
        obtain ⟨t0, a0, b0⟩ := hr 0 x rfl
        obtain ⟨t1, a1, b1⟩ := hr 1 y rfl
        obtain ⟨t2, a2, b2⟩ := hr 2 z rfl
        have e3 := G.three x y z rfl
        have at0 : atI (ts.map V.ref) 0 = some (.ref t0) := atI_nat (j := 0) (by rw [List.getElem?_map, a0]; rfl)
        have at1 : atI (ts.map V.ref) 1 = some (.ref t1) := atI_nat (j := 1) (by rw [List.getElem?_map, a1]; rfl)
        have at2 : atI (ts.map V.ref) 2 = some (.ref t2) := atI_nat (j := 2) (by rw [List.getElem?_map, a2]; rfl)
        walk_at "go"
        refine g_ixL (SqL.of el) at2 ?_
        walk_at "go"
        refine g_ixT (SqT.of b2) (v := .int z.1) rfl ?_
        walk_at "go"
        refine g_ixL (SqL.of el) at0 ?_
        walk_at "go"
        refine g_ixT (SqT.of b0) (v := .int x.1) rfl ?_
        walk_at "go"
        refine g_ixL (SqL.of el) at1 ?_
        walk_at "go"
        refine g_ixT (SqT.of b1) (v := .int y.1) rfl ?_
        walk_at "go"
        refine g_ndec (fun c => absurd e3 c) (fun _ => ?_)
        walk_at "go"
        refine g_decT rfl ?_
        walk_at "go"
        exact fin
      · walk_at "go"
        refine g_decT rfl ?_
        walk_at "go"
        exact fin
theorem RowsAt.putD {H : Hp} {l pd : Addr} {qs : List (Int × Int)} {kvs kvs' : List (Key × V)} (R : RowsAt H l qs) (e : H pd = some (.dK kvs)) : RowsAt (upd H pd (.dK kvs')) l qs := by
  obtain ⟨ts, e1, e2, e3⟩ := R
  have ne : ∀ {a : Addr} {o : HO}, H a = some o → (∀ z, o ≠ .dK z) → a ≠ pd := fun h hn z => by
    subst z
    rw [h] at e
    exact hn _ (Option.some.inj e)
  refine ⟨ts, by rw [upd_ne (ne e1 fun z h => HO.noConfusion h)]; exact e1, e2, fun i q hq => ?_⟩
  obtain ⟨t, h1, h2⟩ := e3 i q hq
  exact ⟨t, h1, by rw [upd_ne (ne h2 fun z h => HO.noConfusion h)]; exact h2⟩
def sp_law_told (_ : Txt K mg) : Sp := fun vs H Q _ => ∃ (q4 : Addr) (many a n b k size step : Int), vs = [.ref q4, .int many] ∧ H q4 = some (.tup [.int a, .int n, .int b, .int k]) ∧ Told size step many a n b k ∧
  ∀ (l : Addr) (H' : Hp) (qs : List (Int × Int)), Same H H' → H l = none → RowsAt H' l qs → Tab (cntOf a n b k many) qs → Q (.ref l) H'
theorem ok_law_told (T : Txt K mg) : FnOk P w K mg base CX0 1 T.a_law_told T.fd_law_told ["_law_four", "_law_many"] (sp_law_told T) := by
  refine T.F_law_told.ok sc_law_told (fun vs H Q E h => ?_) (fun cdv A outer s H vs Q E hr h => ?_)
  · obtain ⟨q4, many, a, n, b, k, size, step, rfl, _⟩ := h
    rfl
  · obtain ⟨q4, many, a, n, b, k, size, step, rfl, h⟩ := h
    refine ⟨_, pss_cons (ps_asg (pv 0) (pg_tup (by rfl) (pgs_cons (pg_name (i := 2) sc_law_told.nd rfl (.inl rfl)) (pgs_cons (pg_name (i := 3) sc_law_told.nd rfl (.inl rfl)) (pgs_cons (pg_name (i := 4) sc_law_told.nd rfl (.inl rfl)) (pgs_cons (pg_name (i := 5) sc_law_told.nd rfl (.inl rfl)) (pgs_nil)))))))
 (pss_cons (ps_set (i := 6) sc_law_told.nd rfl (.inl rfl) pe_dnewK)
 (pss_cons (ps_for PassesOwn.never rfl (pi_list (pe_lst (pa_cons (pe_tup (pa_cons (pv 3) (pa_cons (pe_op op_sub (pv 1) (pv 2)) pa_nil))) (pa_cons (pe_tup (pa_cons (pv 5) (pa_cons (pe_op op_sub (pv 1) (pv 4)) pa_nil))) (pa_cons (pe_tup (pa_cons (pe_op op_add (pv 3) (pv 5)) (pa_cons (pe_op op_sub (pe_op op_add (pv 2) (pv 4)) (pv 1)) pa_nil))) pa_nil))))) (pg_tup (by rfl) (pgs_cons (pg_name (i := 7) sc_law_told.nd rfl (.inl rfl)) (pgs_cons (pg_name (i := 8) sc_law_told.nd rfl (.inl rfl)) (pgs_nil)))) (pss_one (ps_if (pt_cmpR op_gt (pv 8) pe_int (nomark _))
  (pss_one (ps_dput (hu_of hr) (pv 6) (pv 7) (pe_op op_add (pe_dget2 (hu_of hr) (pv 6) (pv 7) pe_int ⟨rfl, rfl, rfl, rfl⟩) (pv 8)) rfl))
  (pss_nil))))
 (pss_one (ps_ret (pe_callB (cr_sortedItemsI (by rfl)) (by rfl) T.z_sorted (by decide +kernel) (pa_cons (pe_bm0 PySem.F.plainAttrs_dict PySem.F.slot_dict_items PySem.F.type_dict_items mt_itemsK (pv 6)) pa_nil)))))), ?_⟩
    obtain ⟨e4, Tq, q⟩ := h
    walk_at "go"
    refine g_gtup (SqT.of e4) rfl ?_
    walk_at "go"
    intro pd nd
    have s1 : Same H (upd H pd (.dK [])) := same_upd nd
    have e1 : (upd H pd (.dK [])) pd = some (.dK []) := upd_same
    generalize upd H pd (.dK []) = H1 at s1 e1
    walk_at "go"
    refine g_len (by simp) fun t1 nt1 => ?_
    have s2 : Same H1 (upd H1 t1 (.tup [.int n, .int (many - a)])) := same_upd nt1
    have f1 : (upd H1 t1 (.tup [.int n, .int (many - a)])) t1 = some (.tup [.int n, .int (many - a)]) := upd_same
    generalize upd H1 t1 (.tup [.int n, .int (many - a)]) = H2 at s2 f1
    walk_at "go"
    refine g_len (by simp) fun t2 nt2 => ?_
    have s3 : Same H2 (upd H2 t2 (.tup [.int k, .int (many - b)])) := same_upd nt2
    have f2 : (upd H2 t2 (.tup [.int k, .int (many - b)])) t2 = some (.tup [.int k, .int (many - b)]) := upd_same
    generalize upd H2 t2 (.tup [.int k, .int (many - b)]) = H3 at s3 f2
    walk_at "go"
    refine g_len (by simp) fun t3 nt3 => ?_
    have s4 : Same H3 (upd H3 t3 (.tup [.int (n + k), .int (a + b - many)])) := same_upd nt3
    have f3 : (upd H3 t3 (.tup [.int (n + k), .int (a + b - many)])) t3 = some (.tup [.int (n + k), .int (a + b - many)]) := upd_same
    generalize upd H3 t3 (.tup [.int (n + k), .int (a + b - many)]) = H4 at s4 f3
    walk_at "go"
    refine g_len (by simp) fun pl nl => ?_
    have s5 : Same H4 (upd H4 pl (.lst [.ref t1, .ref t2, .ref t3])) := same_upd nl
    have f4 : (upd H4 pl (.lst [.ref t1, .ref t2, .ref t3])) pl = some (.lst ([t1, t2, t3].map V.ref)) := upd_same
    generalize upd H4 pl (.lst [.ref t1, .ref t2, .ref t3]) = H5 at s5 f4
    have R : RowsAt H5 pl (fourRows a n b k many) := by
      refine ⟨[t1, t2, t3], f4, rfl, fun i q hq => ?_⟩
      match i, hq with
      | 0, hq =>
        cases hq
        exact ⟨t1, rfl, s5 _ _ (s4 _ _ (s3 _ _ f1))⟩
      | 1, hq =>
        cases hq
        exact ⟨t2, rfl, s5 _ _ (s4 _ _ f2)⟩
      | 2, hq =>
        cases hq
        exact ⟨t3, rfl, s5 _ _ f3⟩
    have sA : Same H H5 := (((s1.trans s2).trans s3).trans s4).trans s5
    have e5 : H5 pd = some (.dK (([] : List (Int × Int)).map iEnt)) := (((s2.trans s3).trans s4).trans s5) _ _ e1
    refine g_overL (SqL.of f4) (fun i σ' H' => ∃ (v7 v8 : Option V), σ' = [some (.ref q4), some (.int many), some (.int a), some (.int n), some (.int b), some (.int k), some (.ref pd), v7, v8] ∧ Same H H' ∧ H' pl = some (.lst ([t1, t2, t3].map V.ref)) ∧ RowsAt H' pl (fourRows a n b k many) ∧
        H' pd = some (.dK ((((fourRows a n b k many).take i).foldl rowStep []).map iEnt)) ∧ (((fourRows a n b k many).take i).foldl rowStep []).length ≤ i) ⟨_, _, rfl, sA, f4, R, e5, Nat.le_refl _⟩ (fun i σ' H' _ h => ?_) ?_ ?_
    · obtain ⟨_, _, _, _, f, _⟩ := h
      exact SqL.of f
    · rintro i x σ' H' hx ⟨v7, v8, rfl, sx, fx, Rx, ex, lx⟩
      obtain ⟨t, ht, rfl⟩ := map_at hx
      have hi : i < 3 := (List.getElem?_eq_some_iff.mp ht).1
      have hq : (fourRows a n b k many)[i]? = some (fourRows a n b k many)[i] := List.getElem?_eq_getElem hi
      obtain ⟨t', ht', et⟩ : ∃ t', [t1, t2, t3][i]? = some t' ∧ H' t' = some (.tup [.int (fourRows a n b k many)[i].1, .int (fourRows a n b k many)[i].2]) := by
        obtain ⟨ts, g1, g2, g3⟩ := Rx
        have : ts.map V.ref = [t1, t2, t3].map V.ref := by
          rw [g1] at fx
          injection fx with fx
          injection fx
        have e : ts = [t1, t2, t3] := (List.map_inj_right (fun x y (h : V.ref x = V.ref y) => V.ref.inj h)).mp this
        rw [← e]
        exact g3 i _ hq
      rw [ht] at ht'
      cases ht'
      have tk : ((fourRows a n b k many).take (i + 1)).foldl rowStep [] = rowStep (((fourRows a n b k many).take i).foldl rowStep []) (fourRows a n b k many)[i] := by
        rw [take_succ' hq, List.foldl_append]
        rfl
      rw [tk]
      have ll := rowStep_len (((fourRows a n b k many).take i).foldl rowStep []) (fourRows a n b k many)[i] putI_len
      generalize (((fourRows a n b k many).take i).foldl rowStep []) = es at *
      generalize (fourRows a n b k many)[i] = r at *
      refine g_gtup (SqT.of et) rfl ?_
      walk_at "go"
      unfold rowStep at ll ⊢
      refine g_dec (fun hc => ?_) (fun hc => ?_)
      · rw [if_pos hc] at ll ⊢
        walk_at "go"
        refine g_dp ?_
        walk_at "go"
        refine g_dg ?_
        walk_at "go"
        refine g_isd ex ?_
        walk_at "go"
        refine g_dgI ex fun o eo => ?_
        rw [eo]
        walk_at "go"
        refine g_dpI ex (by omega) ?_
        refine ⟨_, _, rfl, same_mut nd sx, ?_, Rx.putD ex, upd_same, by omega⟩
        rw [upd_ne (fun z => by rw [z, ex] at fx; cases fx)]
        exact fx
      · rw [if_neg hc] at ll ⊢
        walk_at "go"
        exact ⟨_, _, rfl, sx, fx, Rx, ex, by omega⟩
    · rintro σ' H' ⟨v7, v8, rfl, sx, fx, Rx, ex, lx⟩
      have hH := Tq.rows_has
      have e0 : (fourRows a n b k many).take ([t1, t2, t3].map V.ref).length = fourRows a n b k many := rfl
      rw [e0] at ex lx
      generalize (fourRows a n b k many).foldl rowStep [] = es at hH ex lx
      walk_at "go"
      refine g_items ?_
      walk_at "go"
      refine g_itemsI ex fun pi ni => ?_
      walk_at "go"
      have s6 : Same H' (upd H' pi (L2.DX.itemsO pi pd)) := same_upd ni
      refine ⟨pi, pd, es, rfl, upd_same, s6 _ _ ex, fun H7 l ts qs s7 hp hs nl2 el hl hr => ?_⟩
      have sB := sx.trans s6
      refine q l H7 qs (sB.trans s7) (sB.free nl2) ⟨ts, el, hl, hr⟩ (hH.sorted hp (hs.imp fun {x y} h z => ?_))
      rw [SrtO.lexB_iff.mpr z] at h
      exact Bool.noConfusion h
def sp_law_counted (_ : Txt K mg) : Sp := fun vs H Q _ => ∃ (size step many : Int), vs = [.int size, .int step, .int many] ∧ (1 ≤ size ∧ size ≤ 1000000000000000000000000000000000000000000000000000000000000) ∧ (-1000000000000000000000000000000000000000000000000000000000000 ≤ step ∧ step ≤ 1000000000000000000000000000000000000000000000000000000000000) ∧ 1 ≤ many ∧ many ≤ 24 ∧ many ≤ lapOf size (step % size) ∧
  ∀ (l : Addr) (H' : Hp) (qs : List (Int × Int)), Same H H' → H l = none → RowsAt H' l qs → (∀ rs, GapRows size (step % size) many rs → qs = rs) → Q (.ref l) H'
theorem ok_law_counted (T : Txt K mg) : FnOk P w K mg base CX0 1 T.a_law_counted T.fd_law_counted ["_law_size", "_law_step", "_law_many"] (sp_law_counted T) := by
  refine T.F_law_counted.ok sc_law_counted (fun vs H Q E h => ?_) (fun cdv A outer s H vs Q E hr h => ?_)
  · obtain ⟨size, step, many, rfl, _⟩ := h
    rfl
  · obtain ⟨size, step, many, rfl, h⟩ := h
    refine ⟨_, pss_cons (ps_set (i := 3) sc_law_counted.nd rfl (.inl rfl) (pe_callB cr_sorted (by rfl) T.z_sorted (by decide +kernel) (pa_cons (pe_lc (own := [("_law_beat", 7)]) rfl sc_law_counted.nd (pi_range1 (by rfl) T.z_range (pa_cons (pv 2) pa_nil)) (blkOk_by (N := N_law_counted) (sc := defScope s_law_counted) (by decide +kernel)) (fun _ _ _ _ _ => pg_name (i := 7) sc_law_counted.nd rfl (.inl rfl)) (fun _ _ _ _ _ => pts_nil) (fun _ _ _ _ _ => (pe_op op_mod (pe_op op_mulB (pv 7) (pv 1)) (pv 0)))) pa_nil)))
 (pss_cons (ps_set (i := 4) sc_law_counted.nd rfl (.inl rfl) pe_dnewK)
 (pss_cons (ps_for PassesOwn.never rfl (pi_range1 (by rfl) T.z_range (pa_cons (pv 2) pa_nil)) (pg_name (i := 5) sc_law_counted.nd rfl (.inl rfl)) (pss_cons (ps_set (i := 6) sc_law_counted.nd rfl (.inl rfl) (pe_op op_sub (pe_ix ix_list (pv 3) (pv 5) (fun _ _ => rfl)) (pe_ix ix_list (pv 3) (pe_op op_sub (pv 5) pe_int) (fun _ _ => rfl))))
 (Evl.pss_cut (ps_if (pt_cmpR op_eq (pv 5) pe_int (nomark _))
  (pss_one (ps_set (i := 6) sc_law_counted.nd rfl (.inl rfl) (pe_op op_add (pv 6) (pv 0))))
  (pss_nil))
 (pss_one (ps_dput (hu_of hr) (pv 4) (pv 6) (pe_op op_add (pe_dget2 (hu_of hr) (pv 4) (pv 6) pe_int ⟨rfl, rfl, rfl, rfl⟩) pe_int) rfl)))))
 (pss_one (ps_ret (pe_callB (cr_sortedItemsI (by rfl)) (by rfl) T.z_sorted (by decide +kernel) (pa_cons (pe_bm0 PySem.F.plainAttrs_dict PySem.F.slot_dict_items PySem.F.type_dict_items mt_itemsK (pv 4)) pa_nil)))))), ?_⟩
    obtain ⟨hs, ht, m1, m24, ml, q⟩ := h
    have L : Lap size (step % size) (lapOf size (step % size)) (Int.gcd size (step % size) : Int) := Lap.mk' (by omega)
    walk_at "go"
    obtain ⟨m, rfl⟩ : ∃ m : Nat, many = (m : Int) := ⟨many.toNat, by omega⟩
    rw [show ((m : Int)).toNat = m by omega]
    refine ⟨by omega, by omega, ?_⟩
    refine g_compRange (fun i => pl size (step % size) i) (by omega) ?_ (fun i hi H' Q' s1 k => ?_) (fun D nD H1 s1 eD => ?_)
    · intro x
      rfl
    · have e0 : 0 + (i : Int) = (i : Int) := by omega
      rw [e0]
      walk_at "go"
      refine g_mul (mulB (by omega) (by omega)) ?_
      walk_at "go"
      rw [pl_raw]
      exact k H' (Same.refl _)
    · walk_at "go"
      refine ⟨D, _, rfl, SqL.of eD, by rw [List.length_map, List.length_range]; omega, fun ps pp hperm hsort npp => ?_⟩
      have hlen : ps.length = m := by rw [hperm.length_eq, List.length_map, List.length_range]
      have s2 := s1.trans (same_upd (o := .lst (ps.map V.int)) npp)
      have e2 : (upd H1 pp (.lst (ps.map V.int))) pp = some (.lst (ps.map V.int)) := upd_same
      generalize upd H1 pp (.lst (ps.map V.int)) = H2 at s2 e2
      walk_at "go"
      intro pd nd
      have nd2 := s2.free nd
      have s3 : Same H (upd H2 pd (.dK [])) := s2.trans (same_upd nd)
      have e3 : (upd H2 pd (.dK [])) pd = some (.dK (([] : List (Int × Int)).map iEnt)) := upd_same
      have f3 := same_upd (o := .dK []) nd _ _ e2
      generalize upd H2 pd (.dK []) = H3 at s3 e3 f3
      walk_at "go"
      refine ⟨by omega, by omega, ?_⟩
      rw [show ((m : Int)).toNat = m by omega]
      refine g_overR (fun i σ' H' => ∃ (v5 v6 : Option V) (es : List (Int × Int)), σ' = [some (.int size), some (.int step), some (.int (m : Int)), some (.ref pp), some (.ref pd), v5, v6, none] ∧ Same H H' ∧ H' pp = some (.lst (ps.map V.int)) ∧ H' pd = some (.dK (es.map iEnt)) ∧
        es.length ≤ i ∧ Has (cntIn ((List.range i).map (widthAt size ps))) es) ⟨_, _, [], rfl, s3, f3, e3, Nat.le_refl _, Has.nil⟩ ?_ ?_
      · rintro i σ' H' hi ⟨v5, v6, es, rfl, sx, fx, ex, lx, hx⟩
        have e0 : 0 + (i : Int) = (i : Int) := by omega
        rw [e0]
        have nnp : pd ≠ pp := fun z => by
          rw [z, fx] at ex
          cases ex
        walk_at "go"
        have hi2 : i < ps.length := by omega
        have at1 : atI (ps.map V.int) (i : Int) = some (.int (ps.getD i 0)) := atI_nat (by
          rw [List.getElem?_map, List.getD_eq_getElem?_getD, List.getElem?_eq_getElem hi2]
          rfl)
        refine g_ixL (SqL.of fx) at1 ?_
        walk_at "go"
        have at2 : atI (ps.map V.int) ((i : Int) - 1) = some (.int (if i = 0 then ps.getD (ps.length - 1) 0 else ps.getD (i - 1) 0)) := by
          by_cases c : i = 0
          · subst c
            rw [if_pos rfl]
            have hne : ps ≠ [] := fun z => by
              rw [z] at hi2
              simp at hi2
            have e := List.dropLast_concat_getLast hne
            have e9 : ps.getD (ps.length - 1) 0 = ps.getLast hne := by
              rw [List.getD_eq_getElem?_getD, List.getElem?_eq_getElem (by omega), List.getLast_eq_getElem]
              rfl
            rw [e9]
            show atI (ps.map V.int) (-1) = _
            have := atI_last (ps.dropLast.map V.int) (V.int (ps.getLast hne))
            generalize ps.getLast hne = z at e this ⊢
            rw [← e, List.map_append]
            exact this
          · rw [if_neg c, show (i : Int) - 1 = ((i - 1 : Nat) : Int) by omega]
            refine atI_nat ?_
            rw [List.getElem?_map, List.getD_eq_getElem?_getD, List.getElem?_eq_getElem (by omega)]
            rfl
        refine g_ixL (SqL.of fx) at2 ?_
        walk_at "go"
        have go : ∀ w, w = widthAt size ps i → ∃ (v5' v6' : Option V) (es' : List (Int × Int)), [some (.int size), some (.int step), some (.int (m : Int)), some (.ref pp), some (.ref pd), some (V.int (i : Int)), some (V.int w), none] = [some (.int size), some (.int step), some (.int (m : Int)), some (.ref pp), some (.ref pd), v5', v6', none] ∧
            Same H (upd H' pd (.dK ((putI es w ((getI es w).getD 0 + 1)).map iEnt))) ∧ (upd H' pd (.dK ((putI es w ((getI es w).getD 0 + 1)).map iEnt))) pp = some (.lst (ps.map V.int)) ∧ (upd H' pd (.dK ((putI es w ((getI es w).getD 0 + 1)).map iEnt))) pd = some (.dK (es'.map iEnt)) ∧ es'.length ≤ i + 1 ∧ Has (cntIn ((List.range (i + 1)).map (widthAt size ps))) es' := by
          rintro w rfl
          refine ⟨_, _, _, rfl, ?_, ?_, upd_same, ?_, ?_⟩
          · exact same_mut nd2 sx
          · rw [upd_ne (Ne.symm nnp)]
            exact fx
          · have := putI_len es (widthAt size ps i) ((getI es (widthAt size ps i)).getD 0 + 1)
            omega
          · have A := hx.add (fun k => Int.natCast_nonneg _) (widthAt size ps i) (v := 1) (by decide) rfl
            refine A.congr fun k => ?_
            rw [List.range_succ, List.map_append, List.map_singleton, cntIn_snoc]
        refine g_cut (Mid := fun σ' H2 => σ' = [some (.int size), some (.int step), some (.int (m : Int)), some (.ref pp), some (.ref pd), some (V.int (i : Int)), some (V.int (widthAt size ps i)), none] ∧ H2 = H') ?_ ?_
        · walk_at "go"
          refine g_dec (fun c => ?_) (fun c => ?_)
          · have c2 : i = 0 := by omega
            walk_at "go"
            refine ⟨?_, rfl⟩
            unfold widthAt
            rw [if_pos c2, if_pos c2, c2]
            rfl
          · have c2 : ¬ i = 0 := by omega
            walk_at "go"
            refine ⟨?_, rfl⟩
            unfold widthAt
            rw [if_neg c2, if_neg c2]
            rfl
        · rintro σ2 H2 ⟨rfl, rfl⟩
          walk_at "go"
          refine g_dp ?_
          walk_at "go"
          refine g_dg ?_
          walk_at "go"
          refine g_isd ex ?_
          walk_at "go"
          refine g_dgI ex fun o eo => ?_
          rw [eo]
          walk_at "go"
          refine g_dpI ex (by omega) ?_
          exact go _ rfl
      · rintro σ' H' ⟨v5, v6, es, rfl, sx, fx, ex, lx, hx⟩
        walk_at "go"
        refine g_items ?_
        walk_at "go"
        refine g_itemsI ex fun pi ni => ?_
        walk_at "go"
        have s6 : Same H' (upd H' pi (L2.DX.itemsO pi pd)) := same_upd ni
        refine ⟨pi, pd, es, rfl, upd_same, s6 _ _ ex, fun H7 l ts qs s7 hp hs2 nl2 el hl hr => ?_⟩
        have sB := sx.trans s6
        have tab : Tab (cntIn ((List.range m).map (widthAt size ps))) qs := hx.sorted hp (hs2.imp fun {x y} h z => by
          rw [SrtO.lexB_iff.mpr z] at h
          exact Bool.noConfusion h)
        refine q l H7 qs (sB.trans s7) (sB.free nl2) ⟨ts, el, hl, hr⟩ fun rs G => ?_
        rcases G with ⟨e1, rfl⟩ | ⟨a, n, b, k, Tq, U⟩
        · have e2 : m = 1 := by omega
          subst e2
          refine one_tab tab fun w => ?_
          show cntIn [widthAt size ps 0] w = _
          have : widthAt size ps 0 = size := by
            unfold widthAt
            rw [if_pos rfl, hlen]
            show ps.getD 0 0 - ps.getD 0 0 + size = size
            omega
          rw [this]
          unfold cntIn
          rw [List.count_singleton]
          by_cases c : w = size
          · subst c
            simp
          · have c3 : (size == w) = false := by simpa using (fun z => c z.symm)
            rw [c3, if_neg c]
            rfl
        · obtain ⟨row, r1, r2, r3⟩ := Round.of_places L ml hperm hsort
          refine (tab.congr fun w => ?_).uniq U
          rw [← r1]
          exact r3.widths L Tq ml r2 w
theorem GapRows.uniq {size step many : Int} {qs rs : List (Int × Int)} (A : GapRows size step many qs) (B : GapRows size step many rs) : qs = rs := by
  rcases A with ⟨e, rfl⟩ | ⟨a, n, b, k, T, A⟩
  · rcases B with ⟨_, rfl⟩ | ⟨a, n, b, k, T, B⟩
    · rfl
    · have := T.pm
      have := T.f.p1
      omega
  · rcases B with ⟨e, rfl⟩ | ⟨a', n', b', k', U, B⟩
    · have := T.pm
      have := T.f.p1
      omega
    · obtain ⟨rfl, rfl, rfl, rfl⟩ := T.uniq U
      exact A.uniq B
theorem GapRows.good {size step many : Int} {qs : List (Int × Int)} (hs : 1 ≤ size) (A : GapRows size step many qs) : GoodRows size many qs := by
  rcases A with ⟨rfl, e⟩ | ⟨a, n, b, k, T, A⟩
  · exact one_good hs e
  · exact T.rows A
theorem rows_put {H : Hp} {l k : Addr} {qs : List (Int × Int)} {xs ys : List V} (R : RowsAt H l qs) (e : H k = some (.lst xs)) (ne : l ≠ k) : RowsAt (upd H k (.lst ys)) l qs := by
  obtain ⟨ts, e1, e2, e3⟩ := R
  refine ⟨ts, by rw [upd_ne ne]; exact e1, e2, fun i q hq => ?_⟩
  obtain ⟨t, h1, h2⟩ := e3 i q hq
  exact ⟨t, h1, by rw [upd_ne (fun z => by rw [z, e] at h2; cases h2)]; exact h2⟩
theorem rows_snoc {H : Hp} {l t : Addr} {ts : List Addr} {qs : List (Int × Int)} {x y : Int} (e : H l = some (.lst (ts.map V.ref ++ [.ref t]))) (hl : ts.length = qs.length) (hr : ∀ (i : Nat) (q : Int × Int), qs[i]? = some q → ∃ t, ts[i]? = some t ∧ H t = some (.tup [.int q.1, .int q.2])) (et : H t = some (.tup [.int x, .int y])) :
    RowsAt H l (qs ++ [(x, y)]) := by
  refine ⟨ts ++ [t], by rw [e, List.map_append]; rfl, by rw [List.length_append, List.length_append, hl]; rfl, fun i q hq => ?_⟩
  by_cases c : i < qs.length
  · rw [List.getElem?_append_left c] at hq
    obtain ⟨u, h1, h2⟩ := hr i q hq
    exact ⟨u, by rw [List.getElem?_append_left (by omega)]; exact h1, h2⟩
  · rw [List.getElem?_append_right (by omega)] at hq
    by_cases c2 : i = qs.length
    · subst c2
      rw [Nat.sub_self] at hq
      cases hq
      exact ⟨t, by rw [List.getElem?_append_right (by omega), hl, Nat.sub_self]; rfl, et⟩
    · obtain ⟨d, hd⟩ : ∃ d, i - qs.length = d + 1 := ⟨i - qs.length - 1, by omega⟩
      rw [hd] at hq
      cases hq
def sp_law_stands (T : Txt K mg) : Sp := fun vs H Q _ => ∃ (p : Addr) (size step many a0 : Int), vs = [.ref p, .int size, .int step, .int many] ∧ Whl T.C_Wheel H p size (step % size) a0 ∧ (-1000000000000000000000000000000000000000000000000000000000000 ≤ step ∧ step ≤ 1000000000000000000000000000000000000000000000000000000000000) ∧ 1 ≤ many ∧ many ≤ lapOf size (step % size) ∧ ∀ H', Same H H' → Q (.bl true) H'
theorem ok_law_stands (T : Txt K mg) : FnOk P w K mg base CX0 5 T.a_law_stands T.fd_law_stands ["_law_wheel", "_law_size", "_law_step", "_law_many"] (sp_law_stands T) := by
  refine T.F_law_stands.ok sc_law_stands (fun vs H Q E h => ?_) (fun cdv A outer s H vs Q E hr h => ?_)
  · obtain ⟨p, size, step, many, a0, rfl, _⟩ := h
    rfl
  · obtain ⟨p, size, step, many, a0, rfl, h⟩ := h
    refine ⟨_, pss_cons (ps_set (i := 4) sc_law_stands.nd rfl (.inl rfl) (pe_call (ok_gaps T) (hr.mono (by decide)) (by rfl) T.g_gaps T.F_gaps.kp T.b_gaps .nil passL (pa_cons (pv 0) (pa_cons (pv 3) pa_nil))))
 (pss_cons (ps_if (pt_not (pt_val (pe_call (ok_law_good T) (hr.mono (by decide)) (by rfl) T.g_law_good T.F_law_good.kp T.b_law_good .nil pass0 (pa_cons (pv 4) (pa_cons (pv 1) (pa_cons (pv 3) pa_nil))))))
  (pss_one (ps_ret pe_bl))
  (pss_nil))
 (Evl.pss_cut (ps_if (PW.pt (pw_and (pt_cmpR op_le (pv 3) pe_int (nomark _)) (pw_and1 (pt_cmpR (op_neD hr.units) (pv 4) (pe_call (ok_law_counted T) (hr.mono (by decide)) (by rfl) T.g_law_counted T.F_law_counted.kp T.b_law_counted .nil pass0 (pa_cons (pv 1) (pa_cons (pv 2) (pa_cons (pv 3) pa_nil)))) (nomark _)))))
  (pss_one (ps_ret pe_bl))
  (pss_nil))
 (Evl.pss_cut (ps_if (pt_cmpR op_gt (pv 3) pe_int (nomark _))
  (pss_cons (ps_set (i := 5) sc_law_stands.nd rfl (.inl rfl) (pe_call (ok_around T) (hr.mono (by decide)) (by rfl) T.g_around T.F_around.kp T.b_around .nil passL (pa_cons (pv 0) (pa_cons (pv 3) pa_nil))))
 (pss_one (ps_if (PW.pt (pw_or (pt_not (pt_val (pe_call (ok_law_shown T) (hr.mono (by decide)) (by rfl) T.g_law_shown T.F_law_shown.kp T.b_law_shown .nil pass0 (pa_cons (pv 5) (pa_cons (pv 1) (pa_cons (pv 2) (pa_cons (pv 3) pa_nil))))))) (pw_or1 (pt_cmpR (op_neD hr.units) (pv 4) (pe_call (ok_law_told T) (hr.mono (by decide)) (by rfl) T.g_law_told T.F_law_told.kp T.b_law_told .nil pass0 (pa_cons (pv 5) (pa_cons (pv 3) pa_nil))) (nomark _)))))
  (pss_one (ps_ret pe_bl))
  (pss_nil))))
  (pss_nil))
 (pss_cons (ps_set (i := 6) sc_law_stands.nd rfl (.inl rfl) (pe_callTy call_list_of (by rfl) T.z_list (by decide +kernel) (pa_cons (pv 4) pa_nil)))
 (pss_cons (ps_expr (pe_bm PySem.F.plainAttrs_list PySem.F.slot_list_append PySem.F.type_list_append mt_append (pv 4) (pa_cons (pe_tup (pa_cons pe_int (pa_cons pe_int pa_nil))) pa_nil)))
 (pss_one (ps_ret (pe_and (pe_cmpR (op_eqD hr.units) (pe_call (ok_gaps T) (hr.mono (by decide)) (by rfl) T.g_gaps T.F_gaps.kp T.b_gaps .nil passL (pa_cons (pv 0) (pa_cons (pv 3) pa_nil))) (pv 6) (nomark _)) (pe_one (pe_cmpR (op_eqD hr.units) (pv 4) (pe_op op_cat (pv 6) (pe_lst (pa_cons (pe_tup (pa_cons pe_int (pa_cons pe_int pa_nil))) pa_nil))) (nomark _))))))))))), ?_⟩
    obtain ⟨W, ht, m1, ml, q⟩ := h
    have w1 := W.s1
    have w2 := W.s2
    have hlap := lap_le (size := size) (step := step % size) (by omega)
    walk_at "gw"
    refine ⟨p, _, size, _, a0, rfl, W, .inl ⟨many, rfl, m1, ml, fun l H1 qs s1 nl R G => ?_⟩⟩
    have good := G.good w1
    have W1 := W.same s1
    walk_at "gw"
    refine ⟨l, size, many, qs, rfl, R, good, ⟨w1, w2⟩, ⟨m1, by omega⟩, ?_⟩
    walk_at "gw"
    refine g_cut (Mid := fun σ' H' => σ' = [some (.ref p), some (.int size), some (.int step), some (.int many), some (.ref l), none, none] ∧ Same H1 H') ?_ ?_
    · walk_at "gw"
      refine g_dec (fun h24 => ?_) (fun _ => ?_)
      · walk_at "gw"
        refine ⟨size, step, many, rfl, ⟨w1, w2⟩, ht, m1, h24, ml, fun l2 H2 rs s2 nl2 R2 eqv => ?_⟩
        have e := eqv qs G
        subst e
        refine g_neR (R.same s2) R2 ?_
        walk_at "gw"
        exact ⟨rfl, s2⟩
      · walk_at "gw"
        exact ⟨rfl, Same.refl _⟩
    · rintro σ' H2 ⟨rfl, s2⟩
      have R2 := R.same s2
      have W2 := W1.same s2
      have sA := s1.trans s2
      clear R W1 s1 s2
      refine g_cut (Mid := fun σ' H' => ∃ v5, σ' = [some (.ref p), some (.int size), some (.int step), some (.int many), some (.ref l), v5, none] ∧ Same H2 H') ?_ ?_
      · walk_at "gw"
        refine g_dec (fun h1 => ?_) (fun _ => ?_)
        · walk_at "gw"
          refine ⟨p, _, size, _, a0, rfl, W2, .inl ⟨many, rfl, by omega, ml, fun q4 H3 a n b k s3 Tq e4 _ => ?_⟩⟩
          walk_at "gw"
          refine ⟨q4, size, step, many, a, n, b, k, rfl, e4, Tq, ⟨w1, w2⟩, ht, by omega, ?_⟩
          walk_at "gw"
          refine ⟨q4, many, a, n, b, k, size, step % size, rfl, e4, Tq, fun l3 H4 rs s4 nl3 R3 tab => ?_⟩
          have e := G.uniq (.inr ⟨a, n, b, k, Tq, tab⟩)
          subst e
          refine g_neR (R2.same (s3.trans s4)) R3 ?_
          walk_at "gw"
          exact ⟨_, rfl, s3.trans s4⟩
        · walk_at "gw"
          exact ⟨_, rfl, Same.refl _⟩
      · rintro σ' H3 ⟨v5, rfl, s3⟩
        have W3 := W2.same s3
        have R3 := R2.same s3
        have sB := sA.trans s3
        clear W2 R2 sA s3
        obtain ⟨ts, el, hl, hr⟩ := R3
        walk_at "gw"
        refine ⟨l, _, rfl, .inl (SqL.of el), fun lk nk => ?_⟩
        have s4 : Same H3 (upd H3 lk (.lst (ts.map V.ref))) := same_upd nk
        have ek : (upd H3 lk (.lst (ts.map V.ref))) lk = some (.lst (ts.map V.ref)) := upd_same
        generalize upd H3 lk (.lst (ts.map V.ref)) = H4 at s4 ek
        have nlk : l ≠ lk := ne_of_none el nk
        walk_at "gw"
        refine g_ty (s4 _ _ el) ?_
        walk_at "gw"
        refine g_len (by simp) fun pt nt => ?_
        have s5 : Same H4 (upd H4 pt (.tup [.int 1, .int 1])) := same_upd nt
        have et : (upd H4 pt (.tup [.int 1, .int 1])) pt = some (.tup [.int 1, .int 1]) := upd_same
        generalize upd H4 pt (.tup [.int 1, .int 1]) = H5 at s5 et
        have el5 := s5 _ _ (s4 _ _ el)
        have ek5 := s5 _ _ ek
        have hr5 : ∀ (i : Nat) (q : Int × Int), qs[i]? = some q → ∃ t, ts[i]? = some t ∧ H5 t = some (.tup [.int q.1, .int q.2]) := fun i q h => by
          obtain ⟨t, h1, h2⟩ := hr i q h
          exact ⟨t, h1, s5 _ _ (s4 _ _ h2)⟩
        have g3 := good.l3
        walk_at "gw"
        refine g_app el5 (by rw [List.length_map]; omega) ?_
        have sC : Same H (upd H5 l (.lst (ts.map V.ref ++ [.ref pt]))) := same_mut nl ((sB.trans s4).trans s5)
        have el6 : (upd H5 l (.lst (ts.map V.ref ++ [.ref pt]))) l = some (.lst (ts.map V.ref ++ [.ref pt])) := upd_same
        have ek6 : (upd H5 l (.lst (ts.map V.ref ++ [.ref pt]))) lk = some (.lst (ts.map V.ref)) := by
          rw [upd_ne (Ne.symm nlk)]
          exact ek5
        have tp6 : ∀ {t : Addr} {xs : List V}, H5 t = some (.tup xs) → (upd H5 l (.lst (ts.map V.ref ++ [.ref pt]))) t = some (.tup xs) := fun {t xs} h => by
          rw [upd_ne (fun z => by rw [z, el5] at h; cases h)]
          exact h
        have hr6 : ∀ (i : Nat) (q : Int × Int), qs[i]? = some q → ∃ t, ts[i]? = some t ∧ (upd H5 l (.lst (ts.map V.ref ++ [.ref pt]))) t = some (.tup [.int q.1, .int q.2]) := fun i q h => by
          obtain ⟨t, h1, h2⟩ := hr5 i q h
          exact ⟨t, h1, tp6 h2⟩
        have et6 := tp6 et
        generalize upd H5 l (.lst (ts.map V.ref ++ [.ref pt])) = H6 at sC el6 ek6 hr6 et6
        have W6 := W.same sC
        walk_at "gw"
        refine ⟨p, _, size, _, a0, rfl, W6, .inl ⟨many, rfl, m1, ml, fun l7 H7 rs s7 nl7 R7 G7 => ?_⟩⟩
        have e := G7.uniq G
        subst e
        walk_at "gw"
        have hr7 : ∀ (i : Nat) (q : Int × Int), rs[i]? = some q → ∃ t, ts[i]? = some t ∧ H7 t = some (.tup [.int q.1, .int q.2]) := fun i q h => by
          obtain ⟨t, h1, h2⟩ := hr6 i q h
          exact ⟨t, h1, s7 _ _ h2⟩
        refine g_eqR R7 ⟨ts, s7 _ _ ek6, hl, hr7⟩ ?_
        walk_at "gw"
        refine g_len (by simp) fun pt2 nt2 => ?_
        have s8 : Same H7 (upd H7 pt2 (.tup [.int 1, .int 1])) := same_upd nt2
        have et8 : (upd H7 pt2 (.tup [.int 1, .int 1])) pt2 = some (.tup [.int 1, .int 1]) := upd_same
        generalize upd H7 pt2 (.tup [.int 1, .int 1]) = H8 at s8 et8
        walk_at "gw"
        refine g_len (by simp) fun pl2 nl2 => ?_
        have s9 : Same H8 (upd H8 pl2 (.lst [.ref pt2])) := same_upd nl2
        have el9 : (upd H8 pl2 (.lst [.ref pt2])) pl2 = some (.lst [.ref pt2]) := upd_same
        generalize upd H8 pl2 (.lst [.ref pt2]) = H9 at s9 el9
        refine ⟨lk, pl2, _, _, rfl, rfl, s9 _ _ (s8 _ _ (s7 _ _ ek6)), el9, Nat.le_of_lt (small1000 (by rw [List.length_map]; simp; omega)), fun pr nr => ?_⟩
        have s10 : Same H9 (upd H9 pr (.lst (ts.map V.ref ++ [.ref pt2]))) := same_upd nr
        have e10 : (upd H9 pr (.lst (ts.map V.ref ++ [.ref pt2]))) pr = some (.lst (ts.map V.ref ++ [.ref pt2])) := upd_same
        generalize upd H9 pr (.lst (ts.map V.ref ++ [.ref pt2])) = H10 at s10 e10
        have sD : Same H7 H10 := (s8.trans s9).trans s10
        have hr10 : ∀ (i : Nat) (q : Int × Int), rs[i]? = some q → ∃ t, ts[i]? = some t ∧ H10 t = some (.tup [.int q.1, .int q.2]) := fun i q h => by
          obtain ⟨t, h1, h2⟩ := hr7 i q h
          exact ⟨t, h1, sD _ _ h2⟩
        refine g_eqR (rows_snoc (sD _ _ (s7 _ _ el6)) hl hr10 (sD _ _ (s7 _ _ et6))) (rows_snoc e10 hl hr10 (s10 _ _ (s9 _ _ et8))) ?_
        exact q _ ((sC.trans s7).trans sD)
def sp_law_manies (_ : Txt K mg) : Sp := fun vs H Q _ => ∃ (a : Addr) (ns : List Int) (size lap : Int), vs = [.ref a, .int size, .int lap] ∧ SqL K H a (ns.map V.int) ∧ ns.length ≤ 63 ∧ 1 ≤ lap ∧
  ∀ (p : Addr) (H' : Hp) (ms : List Int), Same H H' → H' p = some (.lst (ms.map V.int)) → (∀ m ∈ ms, 1 ≤ m ∧ m ≤ lap) → Q (.ref p) H'
theorem ok_law_manies (T : Txt K mg) : FnOk P w K mg base CX0 1 T.a_law_manies T.fd_law_manies ["_law_script", "_law_size", "_law_lap"] (sp_law_manies T) := by
  refine T.F_law_manies.ok sc_law_manies (fun vs H Q E h => ?_) (fun cdv A outer s H vs Q E hr h => ?_)
  · obtain ⟨a, ns, size, lap, rfl, _⟩ := h
    rfl
  · obtain ⟨a, ns, size, lap, rfl, h⟩ := h
    refine ⟨_, pss_cons (ps_set (i := 3) sc_law_manies.nd rfl (.inl rfl) (pe_lst (pa_cons pe_int (pa_cons (pv 2) pa_nil))))
 (pss_cons (ps_for PassesOwn.never rfl (pi_list (pe_slice sl_list (pv 0) (po_some pe_int) (po_some pe_int))) (pg_name (i := 4) sc_law_manies.nd rfl (.inl rfl)) (pss_one (ps_if (PW.pt (pw_or (pt_cmpR op_le (pv 1) (pe_lpow (v := 1000000000000000000) (pe_int) (pe_int) (by decide) (by decide +kernel)) (nomark _)) (pw_or1 (pt_cmpR op_lt (pe_callB call_len_seq (by rfl) T.z_len (by decide +kernel) (pa_cons (pv 3) pa_nil)) pe_int (nomark _)))))
  (pss_one (ps_if (pt_cmpR op_eq (pe_op op_mod (pe_callB call_len_seq (by rfl) T.z_len (by decide +kernel) (pa_cons (pv 3) pa_nil)) pe_int) pe_int (nomark _))
  (pss_one (ps_expr (pe_bm PySem.F.plainAttrs_list PySem.F.slot_list_append PySem.F.type_list_append mt_append (pv 3) (pa_cons (pe_op op_add pe_int (pe_op op_mod (pv 4) (pv 2))) pa_nil))))
  (pss_one (ps_expr (pe_bm PySem.F.plainAttrs_list PySem.F.slot_list_append PySem.F.type_list_append mt_append (pv 3) (pa_cons (pe_op op_add pe_int (pe_op op_mod (pv 4) (pe_callB (call_min2 (by rfl)) (by rfl) T.z_min (by decide +kernel) (pa_cons (pv 2) (pa_cons pe_int pa_nil))))) pa_nil))))))
  (pss_nil))))
 (pss_one (ps_ret (pv 3)))), ?_⟩
    obtain ⟨hS, hl, hlap, q⟩ := h
    walk_at "go"
    refine g_len (by simp) fun pl nl => ?_
    have s1 : Same H (upd H pl (.lst [.int 1, .int lap])) := same_upd nl
    have e1 : (upd H pl (.lst [.int 1, .int lap])) pl = some (.lst ([1, lap].map V.int)) := upd_same
    generalize upd H pl (.lst [.int 1, .int lap]) = H1 at s1 e1
    walk_at "go"
    refine g_slL (s1.seq hS) fun pc nc => ?_
    rw [cut_map]
    have hcl := cut_len ns (some 5) (some 65)
    generalize cutN ns (some 5) (some 65) = cs at hcl
    have s2 : Same H1 (upd H1 pc (.lst (cs.map V.int))) := same_upd nc
    have hc2 : (upd H1 pc (.lst (cs.map V.int))) pc = some (.lst (cs.map V.int)) := upd_same
    have npc : pl ≠ pc := ne_of_none e1 nc
    have e2 := s2 _ _ e1
    have sH2 := s1.trans s2
    generalize upd H1 pc (.lst (cs.map V.int)) = H2 at s2 hc2 e2 sH2
    refine g_overL (SqL.of hc2) (fun i σ' H' => ∃ (v4 : Option V) (ms : List Int), σ' = [some (.ref a), some (.int size), some (.int lap), some (.ref pl), v4] ∧ Same H H' ∧ H' pc = some (.lst (cs.map V.int)) ∧ H' pl = some (.lst (ms.map V.int)) ∧ ms.length ≤ i + 2 ∧ ∀ m ∈ ms, 1 ≤ m ∧ m ≤ lap)
      ⟨_, [1, lap], rfl, sH2, hc2, e2, Nat.le_refl _, fun m hm => by simp at hm; omega⟩ (fun i σ' H' _ h => ?_) ?_ ?_
    · obtain ⟨_, _, _, _, hc, _⟩ := h
      exact SqL.of hc
    · rintro i x σ' H' hx ⟨v4, ms, rfl, sx, hc, hm, hml, hmm⟩
      obtain ⟨cell, hcell, rfl⟩ := map_at hx
      have hil : i < cs.length := (List.getElem?_eq_some_iff.mp hcell).1
      have put : ∀ y : Int, 1 ≤ y → y ≤ lap → ∃ (v4 : Option V) (ms' : List Int), [some (V.ref a), some (.int size), some (.int lap), some (.ref pl), some (.int cell)] = [some (.ref a), some (.int size), some (.int lap), some (.ref pl), v4] ∧
          Same H (upd H' pl (.lst (ms.map V.int ++ [.int y]))) ∧ (upd H' pl (.lst (ms.map V.int ++ [.int y]))) pc = some (.lst (cs.map V.int)) ∧ (upd H' pl (.lst (ms.map V.int ++ [.int y]))) pl = some (.lst (ms'.map V.int)) ∧ ms'.length ≤ i + 1 + 2 ∧ ∀ m ∈ ms', 1 ≤ m ∧ m ≤ lap := by
        intro y h1 h2
        refine ⟨_, ms ++ [y], rfl, same_mut nl sx, by rw [upd_ne (Ne.symm npc)]; exact hc, by rw [upd_same, List.map_append]; rfl, by rw [List.length_append]; simp; omega, fun m hmem => ?_⟩
        rcases List.mem_append.mp hmem with hmem | hmem
        · exact hmm m hmem
        · simp at hmem
          omega
      have z0 := Int.emod_nonneg cell (show lap ≠ 0 by omega)
      have z1 := Int.emod_lt_of_pos cell (show 0 < lap by omega)
      obtain ⟨t, ht⟩ : ∃ t, t = if 24 < lap then 24 else lap := ⟨_, rfl⟩
      have tb : 1 ≤ t ∧ t ≤ lap := by
        subst ht
        split <;> omega
      have y0 := Int.emod_nonneg cell (show t ≠ 0 by omega)
      have y1 := Int.emod_lt_of_pos cell (show 0 < t by omega)
      walk_at "go"
      refine g_dec (fun _ => ?_) (fun _ => ?_)
      · walk_at "go"
        refine ⟨pl, _, rfl, .inl (SqL.of hm), ?_⟩
        walk_at "go"
        refine g_dec (fun _ => ?_) (fun _ => ?_)
        · walk_at "go"
          refine g_ty hm ?_
          walk_at "go"
          refine g_app hm (by rw [List.length_map]; omega) ?_
          exact put _ (by omega) (by omega)
        · walk_at "go"
          refine g_ty hm ?_
          walk_at "go"
          rw [← ht]
          walk_at "go"
          refine g_app hm (by rw [List.length_map]; omega) ?_
          exact put _ (by omega) (by omega)
      · walk_at "go"
        refine ⟨pl, _, rfl, .inl (SqL.of hm), ?_⟩
        walk_at "go"
        refine g_dec (fun _ => ?_) (fun _ => ?_)
        · walk_at "go"
          refine ⟨pl, _, rfl, .inl (SqL.of hm), ?_⟩
          walk_at "go"
          refine g_dec (fun _ => ?_) (fun _ => ?_)
          · walk_at "go"
            refine g_ty hm ?_
            walk_at "go"
            refine g_app hm (by rw [List.length_map]; omega) ?_
            exact put _ (by omega) (by omega)
          · walk_at "go"
            refine g_ty hm ?_
            walk_at "go"
            rw [← ht]
            walk_at "go"
            refine g_app hm (by rw [List.length_map]; omega) ?_
            exact put _ (by omega) (by omega)
        · walk_at "go"
          exact ⟨_, ms, rfl, sx, hc, hm, by omega, hmm⟩
    · rintro σ' H' ⟨v4, ms, rfl, sx, hc, hm, hml, hmm⟩
      walk_at "go"
      exact q pl H' ms sx hm hmm
def sp_law_refused (T : Txt K mg) : Sp := fun vs H Q _ => ∃ (p : Addr) (v : V) (size step start : Int), vs = [.ref p, v] ∧ Whl T.C_Wheel H p size step start ∧ Bad K H v 1 (lapOf size step) ∧ Q (.bl true) H
theorem ok_law_refused (T : Txt K mg) : FnOk P w K mg base CX0 5 T.a_law_refused T.fd_law_refused ["_law_wheel", "_law_many"] (sp_law_refused T) := by
  refine T.F_law_refused.ok sc_law_refused (fun vs H Q E h => ?_) (fun cdv A outer s H vs Q E hr h => ?_)
  · obtain ⟨p, v, size, step, start, rfl, _⟩ := h
    rfl
  · obtain ⟨p, v, size, step, start, rfl, h⟩ := h
    refine ⟨_, pss_cons (ps_set (i := 2) sc_law_refused.nd rfl (.inl rfl) pe_bl)
 (pss_cons (ps_try_as (i := 3) (Wout := fun _ _ _ _ => False) rfl rfl sc_law_refused.nd rfl rfl ⟨rfl, by decide, .inl T.g_NoBeats⟩ takes0 (fun W pn xe tk _ => pss_one (ps_expr (pe_callS (ok_gaps T) (hr.mono (by decide)) rfl T.g_gaps T.F_gaps.kp T.b_gaps (fun σ => passAt tk σ) (by exact (pa_cons (pv 0) (pa_cons (pv 1) pa_nil)))))) (fun a oe cls d pn hz hf => pss_one (ps_set (i := 2) sc_law_refused.nd rfl (.inl rfl) (pe_and (pe_callB (call_isE' hz hf) (by rfl) T.z_isinstance (by decide +kernel) (pa_cons (pv 3) (pa_cons (pe_glob (v := .ref T.C_HandError) (by rfl) T.g_HandError rfl) pa_nil))) (pe_one (pe_callB (call_isE' hz hf) (by rfl) T.z_isinstance (by decide +kernel) (pa_cons (pv 3) (pa_cons (pe_bltn (v := .ty "ValueError") (by rfl) T.z_ValueError (by decide +kernel) rfl) pa_nil))))))))
 (pss_one (ps_ret (pv 2)))), ?_⟩
    obtain ⟨W, hb, q⟩ := h
    walk_at "gw"
    refine ⟨p, v, size, step, start, rfl, W, .inr ⟨hb, ?_⟩⟩
    refine ⟨true, T.x_NoBeats_NoBeats, fun _ pe npe => ?_, fun z => nomatch z⟩
    walk_at "gw"
    refine g_isE T.e_NoBeats T.q_NoBeats_HandError ?_ rfl rfl
    walk_at "gw"
    refine g_isET T.e_NoBeats T.qv_NoBeats ?_ rfl rfl
    walk_at "gw"
    exact q
theorem ok_law (T : Txt K mg) : FnOk P w K mg base CX0 6 T.a_law T.fd_law ["_law_script"] (sp_law K) := by
  refine T.F_law.ok sc_law (fun vs H Q E h => ?_) (fun cdv A outer s H vs Q E hr h => ?_)
  · obtain ⟨a, ns, rfl, _⟩ := h
    rfl
  · obtain ⟨a, ns, rfl, h⟩ := h
    refine ⟨_, pss_cons (ps_asg (pe_call (ok_law_drawn T) (hr.mono (by decide)) (by rfl) T.g_law_drawn T.F_law_drawn.kp T.b_law_drawn .nil pass0 (pa_cons (pv 0) pa_nil)) (pg_lst (by rfl) (pgs_cons (pg_name (i := 1) sc_law.nd rfl (.inl rfl)) (pgs_cons (pg_name (i := 2) sc_law.nd rfl (.inl rfl)) (pgs_cons (pg_name (i := 3) sc_law.nd rfl (.inl rfl)) (pgs_nil))))))
 (pss_cons (ps_set (i := 4) sc_law.nd rfl (.inl rfl) (pe_make T.M_Wheel (ok_Wheel_init T) (hr.mono (by decide)) (by rfl) T.g_Wheel T.b3_Wheel_init T.v3_Wheel_init passL (pa_cons (pv 1) (pa_cons (pv 2) (pa_cons (pv 3) pa_nil)))))
 (pss_cons (ps_set (i := 5) sc_law.nd rfl (.inl rfl) (pe_op op_fdivW (pv 1) (pe_call (ok_law_divisor T) (hr.mono (by decide)) (by rfl) T.g_law_divisor T.F_law_divisor.kp T.b_law_divisor .nil pass0 (pa_cons (pv 1) (pa_cons (pe_op op_mod (pv 2) (pv 1)) pa_nil)))))
 (pss_cons (ps_for PassesOwn.never rfl (pi_list (pe_call (ok_law_manies T) (hr.mono (by decide)) (by rfl) T.g_law_manies T.F_law_manies.kp T.b_law_manies .nil pass0 (pa_cons (pv 0) (pa_cons (pv 1) (pa_cons (pv 5) pa_nil))))) (pg_name (i := 6) sc_law.nd rfl (.inl rfl)) (pss_one (ps_if (pt_not (pt_val (pe_call (ok_law_stands T) (hr.mono (by decide)) (by rfl) T.g_law_stands T.F_law_stands.kp T.b_law_stands .nil pass0 (pa_cons (pv 4) (pa_cons (pv 1) (pa_cons (pv 2) (pa_cons (pv 6) pa_nil)))))))
  (pss_one (ps_ret pe_bl))
  (pss_nil))))
 (pss_cons (ps_set (i := 7) sc_law.nd rfl (.inl rfl) (pe_op op_mod (pe_op op_fdivW (pe_call (ok_law_cell_at T) (hr.mono (by decide)) (by rfl) T.g_law_cell_at T.F_law_cell_at.kp T.b_law_cell_at .nil pass0 (pa_cons (pv 0) (pa_cons pe_int pa_nil))) pe_int) (pe_lpow (v := 1000000000000000000000000000000000000000000000000000000000000) (pe_int) (pe_int) (by decide) (by decide +kernel))))
 (pss_cons (ps_set (i := 8) sc_law.nd rfl (.inl rfl) (pe_lst (pa_cons pe_int (pa_cons (pe_op op_sub (pe_lneg (pe_int)) (pv 7)) (pa_cons (pe_op op_add (pv 5) pe_int) (pa_cons (pe_op op_add (pe_op op_add (pv 5) pe_int) (pv 7)) (pa_cons pe_bl (pa_cons pe_bl (pa_cons pe_non (pa_cons pe_str (pa_cons (pe_tup (pa_cons pe_int pa_nil)) (pa_cons (pe_lst (pa_nil)) pa_nil))))))))))))
 (pss_one (ps_ret (pe_and (pe_call (ok_law_refused T) (hr.mono (by decide)) (by rfl) T.g_law_refused T.F_law_refused.kp T.b_law_refused .nil pass0 (pa_cons (pv 4) (pa_cons (pe_ix ix_list (pv 8) (pe_op op_mod (pe_call (ok_law_cell_at T) (hr.mono (by decide)) (by rfl) T.g_law_cell_at T.F_law_cell_at.kp T.b_law_cell_at .nil pass0 (pa_cons (pv 0) (pa_cons pe_int pa_nil))) pe_int) (fun _ _ => rfl)) pa_nil))) (pe_one (pe_call (ok_law_refused T) (hr.mono (by decide)) (by rfl) T.g_law_refused T.F_law_refused.kp T.b_law_refused .nil pass0 (pa_cons (pv 4) (pa_cons (pe_op op_add (pv 5) pe_int) pa_nil)))))))))))), ?_⟩
    obtain ⟨hS, hl, hb, q⟩ := h
    walk_at "gw"
    refine ⟨a, ns, rfl, hS, hb, fun pl H1 size step start s1 e1 nl hs ht ha => ?_⟩
    refine g_glst (SqL.of e1) rfl ?_
    walk_at "gw"
    intro p dx np nd nep
    refine ⟨p, _, _, _, rfl, ⟨dx, upd_same⟩, .inl ⟨size, step, start, rfl, rfl, rfl, hs, ht, ha, fun H2 k2 W => ⟨rfl, ?_⟩⟩⟩
    have s2 := s1.trans (Same.made np nd k2)
    have hlap := lap_le (size := size) (step := step % size) (by omega)
    have gb : ((Int.gcd size (step % size) : Nat) : Int) ≤ size := Int.le_of_dvd (by omega) (Int.gcd_dvd_left ..)
    have L := Lap.mk' (size := size) (step := step % size) (by omega)
    have g1 := L.g1
    have x0 := Int.emod_nonneg step (show size ≠ 0 by omega)
    walk_at "gw"
    refine ⟨_, _, rfl, by omega, x0, ?_⟩
    refine g_div (divW (by omega) (by omega)) ?_
    walk_at "gw"
    refine ⟨a, ns, size, lapOf size (step % size), rfl, s2.seq hS, hl, hlap.1, fun pm H3 ms s3 hm hmm => ?_⟩
    refine g_overL (SqL.of hm) (fun i σ' H' => ∃ v6, σ' = [some (.ref a), some (.int size), some (.int step), some (.int start), some (.ref p), some (.int (lapOf size (step % size))), v6, none, none] ∧ Same H3 H') ⟨_, rfl, Same.refl _⟩ (fun i σ' H' _ h => ?_) ?_ ?_
    · obtain ⟨_, _, sx⟩ := h
      exact sx.seq (SqL.of hm)
    · rintro i x σ' H' hx ⟨v6, rfl, sx⟩
      obtain ⟨m, hmi, rfl⟩ := map_at hx
      have hb2 := hmm m (List.mem_of_getElem? hmi)
      have W4 := (W.same s3).same sx
      walk_at "gw"
      refine ⟨p, size, step, m, _, rfl, W4, ht, hb2.1, hb2.2, fun H5 s5 => ?_⟩
      walk_at "gw"
      exact ⟨_, rfl, sx.trans s5⟩
    · rintro σ' H4 ⟨v6, rfl, s4⟩
      have W4 := (W.same s3).same s4
      have sH := (s2.trans s3).trans s4
      walk_at "gw"
      refine ⟨a, ns, 5, rfl, sH.seq hS, by decide, ?_⟩
      walk_at "gw"
      refine g_div (divW (by decide) (by decide)) ?_
      walk_at "gw"
      have f0 := Int.emod_nonneg (cellAt ns 5 / 10) (show (1000000000000000000000000000000000000000000000000000000000000 : Int) ≠ 0 by decide)
      have f1 := Int.emod_lt_of_pos (cellAt ns 5 / 10) (show (0 : Int) < 1000000000000000000000000000000000000000000000000000000000000 by decide)
      generalize cellAt ns 5 / 10 % 1000000000000000000000000000000000000000000000000000000000000 = far at f0 f1
      refine g_len (by simp) fun pt nt => ?_
      have t1 : Same H4 (upd H4 pt (.tup [.int 1])) := same_upd nt
      have e1 : (upd H4 pt (.tup [.int 1])) pt = some (.tup [.int 1]) := upd_same
      generalize upd H4 pt (.tup [.int 1]) = H5 at t1 e1
      walk_at "gw"
      refine g_len (by simp) fun pe ne => ?_
      have t2 : Same H5 (upd H5 pe (.lst [])) := same_upd ne
      have e2 : (upd H5 pe (.lst [])) pe = some (.lst []) := upd_same
      generalize upd H5 pe (.lst []) = H6 at t2 e2
      walk_at "gw"
      refine g_len (by simp) fun po no => ?_
      have t3 : Same H6 (upd H6 po (.lst [.int 0, .int (-1 - far), .int (lapOf size (step % size) + 1), .int (lapOf size (step % size) + 1 + far), .bl true, .bl false, .non, .str "1", .ref pt, .ref pe])) := same_upd no
      have e3 : (upd H6 po (.lst [.int 0, .int (-1 - far), .int (lapOf size (step % size) + 1), .int (lapOf size (step % size) + 1 + far), .bl true, .bl false, .non, .str "1", .ref pt, .ref pe])) po = some (.lst [.int 0, .int (-1 - far), .int (lapOf size (step % size) + 1), .int (lapOf size (step % size) + 1 + far), .bl true, .bl false, .non, .str "1", .ref pt, .ref pe]) := upd_same
      generalize upd H6 po (.lst [.int 0, .int (-1 - far), .int (lapOf size (step % size) + 1), .int (lapOf size (step % size) + 1 + far), .bl true, .bl false, .non, .str "1", .ref pt, .ref pe]) = H7 at t3 e3
      have tA := (t1.trans t2).trans t3
      walk_at "gw"
      refine ⟨a, ns, 5, rfl, (sH.trans tA).seq hS, by decide, ?_⟩
      walk_at "gw"
      obtain ⟨v, hv, ev⟩ := pickV (xs := [.int 0, .int (-1 - far), .int (lapOf size (step % size) + 1), .int (lapOf size (step % size) + 1 + far), .bl true, .bl false, .non, .str "1", .ref pt, .ref pe]) (i := cellAt ns 5 % 10) (Int.emod_nonneg _ (by decide)) (Int.emod_lt_of_pos _ (by decide))
      refine g_ixL (SqL.of e3) ev ?_
      walk_at "gw"
      have W7 := W4.same tA
      refine ⟨p, v, size, _, _, rfl, W7, ?_, ?_⟩
      · simp only [List.mem_cons, List.not_mem_nil, or_false] at hv
        rcases hv with rfl | rfl | rfl | rfl | rfl | rfl | rfl | rfl | rfl | rfl
        · exact .inr ⟨_, rfl, by omega⟩
        · exact .inr ⟨_, rfl, by omega⟩
        · exact .inr ⟨_, rfl, by omega⟩
        · exact .inr ⟨_, rfl, by omega⟩
        · exact .inl kind_bl
        · exact .inl kind_bl
        · exact .inl kind_non
        · exact .inl kind_str
        · exact .inl (kind_tup ((t2.trans t3) _ _ e1))
        · exact .inl (kind_lst (t3 _ _ e2))
      · walk_at "gw"
        exact ⟨p, _, size, _, _, rfl, W7, .inr ⟨_, rfl, by omega⟩, q _⟩
end
theorem all_mk {l : PySem.W.OpenLaw} {w : World} {K : PySem.W.Frag} {h : Heap} {mg : Str → Option Value} {fa : Addr} (X : K.In h) (G : h.Ns mainGlobals mg) (hfa : mg "law" = some (.ref fa))
    {p_HandError : Addr}
    {p_NoWheel : Addr}
    {p_NoBeats : Addr}
    {p_Wheel : Addr}
    {p_wall : Addr} {od_wall an_wall : Option Addr} {sl_wall : Array (Option Value)} {oc_wall kV_wall dc_wall pm_wall cd_wall ct_wall : Value}
    {p_is_whole : Addr} {od_is_whole an_is_whole : Option Addr} {sl_is_whole : Array (Option Value)} {oc_is_whole kV_is_whole dc_is_whole pm_is_whole cd_is_whole ct_is_whole : Value}
    {p_common : Addr} {od_common an_common : Option Addr} {sl_common : Array (Option Value)} {oc_common kV_common dc_common pm_common cd_common ct_common : Value}
    {p_Wheel_init : Addr} {od_Wheel_init an_Wheel_init : Option Addr} {sl_Wheel_init : Array (Option Value)} {oc_Wheel_init kV_Wheel_init dc_Wheel_init pm_Wheel_init cd_Wheel_init ct_Wheel_init : Value}
    {pt_Wheel_init : Addr} {otd_Wheel_init : Option Addr} {otn_Wheel_init : Nat} {ots_Wheel_init : Array (Option Value)} {ott_Wheel_init : Tok}
    {p_Wheel_reached : Addr} {od_Wheel_reached an_Wheel_reached : Option Addr} {sl_Wheel_reached : Array (Option Value)} {oc_Wheel_reached kV_Wheel_reached dc_Wheel_reached pm_Wheel_reached cd_Wheel_reached ct_Wheel_reached : Value}
    {p_Wheel_place : Addr} {od_Wheel_place an_Wheel_place : Option Addr} {sl_Wheel_place : Array (Option Value)} {oc_Wheel_place kV_Wheel_place dc_Wheel_place pm_Wheel_place cd_Wheel_place ct_Wheel_place : Value}
    {p_Wheel_turns : Addr} {od_Wheel_turns an_Wheel_turns : Option Addr} {sl_Wheel_turns : Array (Option Value)} {oc_Wheel_turns kV_Wheel_turns dc_Wheel_turns pm_Wheel_turns cd_Wheel_turns ct_Wheel_turns : Value}
    {p_need_first : Addr} {od_need_first an_need_first : Option Addr} {sl_need_first : Array (Option Value)} {oc_need_first kV_need_first dc_need_first pm_need_first cd_need_first ct_need_first : Value}
    {p_around : Addr} {od_around an_around : Option Addr} {sl_around : Array (Option Value)} {oc_around kV_around dc_around pm_around cd_around ct_around : Value}
    {p_gaps : Addr} {od_gaps an_gaps : Option Addr} {sl_gaps : Array (Option Value)} {oc_gaps kV_gaps dc_gaps pm_gaps cd_gaps ct_gaps : Value}
    {p_law_cell_at : Addr} {od_law_cell_at an_law_cell_at : Option Addr} {sl_law_cell_at : Array (Option Value)} {oc_law_cell_at kV_law_cell_at dc_law_cell_at pm_law_cell_at cd_law_cell_at ct_law_cell_at : Value}
    {p_law_whole : Addr} {od_law_whole an_law_whole : Option Addr} {sl_law_whole : Array (Option Value)} {oc_law_whole kV_law_whole dc_law_whole pm_law_whole cd_law_whole ct_law_whole : Value}
    {p_law_divisor : Addr} {od_law_divisor an_law_divisor : Option Addr} {sl_law_divisor : Array (Option Value)} {oc_law_divisor kV_law_divisor dc_law_divisor pm_law_divisor cd_law_divisor ct_law_divisor : Value}
    {p_law_signed : Addr} {od_law_signed an_law_signed : Option Addr} {sl_law_signed : Array (Option Value)} {oc_law_signed kV_law_signed dc_law_signed pm_law_signed cd_law_signed ct_law_signed : Value}
    {p_law_drawn : Addr} {od_law_drawn an_law_drawn : Option Addr} {sl_law_drawn : Array (Option Value)} {oc_law_drawn kV_law_drawn dc_law_drawn pm_law_drawn cd_law_drawn ct_law_drawn : Value}
    {p_law_shown : Addr} {od_law_shown an_law_shown : Option Addr} {sl_law_shown : Array (Option Value)} {oc_law_shown kV_law_shown dc_law_shown pm_law_shown cd_law_shown ct_law_shown : Value}
    {p_law_good : Addr} {od_law_good an_law_good : Option Addr} {sl_law_good : Array (Option Value)} {oc_law_good kV_law_good dc_law_good pm_law_good cd_law_good ct_law_good : Value}
    {p_law_told : Addr} {od_law_told an_law_told : Option Addr} {sl_law_told : Array (Option Value)} {oc_law_told kV_law_told dc_law_told pm_law_told cd_law_told ct_law_told : Value}
    {p_law_counted : Addr} {od_law_counted an_law_counted : Option Addr} {sl_law_counted : Array (Option Value)} {oc_law_counted kV_law_counted dc_law_counted pm_law_counted cd_law_counted ct_law_counted : Value}
    {p_law_stands : Addr} {od_law_stands an_law_stands : Option Addr} {sl_law_stands : Array (Option Value)} {oc_law_stands kV_law_stands dc_law_stands pm_law_stands cd_law_stands ct_law_stands : Value}
    {p_law_manies : Addr} {od_law_manies an_law_manies : Option Addr} {sl_law_manies : Array (Option Value)} {oc_law_manies kV_law_manies dc_law_manies pm_law_manies cd_law_manies ct_law_manies : Value}
    {p_law_refused : Addr} {od_law_refused an_law_refused : Option Addr} {sl_law_refused : Array (Option Value)} {oc_law_refused kV_law_refused dc_law_refused pm_law_refused cd_law_refused ct_law_refused : Value}
    {p_law : Addr} {od_law an_law : Option Addr} {sl_law : Array (Option Value)} {oc_law kV_law dc_law pm_law cd_law ct_law : Value}
    (a_HandError : PySem.W.nsIn K mainGlobals "HandError" = some (some (.ref p_HandError)))
    (a_NoWheel : PySem.W.nsIn K mainGlobals "NoWheel" = some (some (.ref p_NoWheel)))
    (x_NoWheel : PySem.W.excIn K p_NoWheel [.type "ValueError", .type "Exception", .type "BaseException", .type "object"] "ValueError.__new__" = true)
    (k_NoWheel : PySem.W.keepIn K (.ref p_NoWheel) = true)
    (eb_NoWheel : PySem.W.subIn K (.ref p_NoWheel) (.type "BaseException") = some true)
    (et_NoWheel : PySem.W.typeIn K (.ref p_NoWheel) = some (.type "type"))
    (a_NoBeats : PySem.W.nsIn K mainGlobals "NoBeats" = some (some (.ref p_NoBeats)))
    (x_NoBeats : PySem.W.excIn K p_NoBeats [.type "ValueError", .type "Exception", .type "BaseException", .type "object"] "ValueError.__new__" = true)
    (k_NoBeats : PySem.W.keepIn K (.ref p_NoBeats) = true)
    (eb_NoBeats : PySem.W.subIn K (.ref p_NoBeats) (.type "BaseException") = some true)
    (et_NoBeats : PySem.W.typeIn K (.ref p_NoBeats) = some (.type "type"))
    (u_n : PySem.W.specialIn K (.builtin "object.__class__") "__get__" = some (some (.builtin "getset_descriptor.__get__")))
    (u_t : PySem.W.takesIn K (.builtin "object.__class__") = some true)
    (hd_HandError : PySem.W.hasDictIn K p_HandError = true)
    (et_HandError : PySem.W.typeIn K (.ref p_HandError) = some (.type "type"))
    (hd_NoWheel : PySem.W.hasDictIn K p_NoWheel = true)
    (hd_NoBeats : PySem.W.hasDictIn K p_NoBeats = true)
    (hg_NoWheel : PySem.W.findIn K (.ref p_NoWheel) "__getattribute__" = some (some (.builtin "BaseException.__getattribute__")))
    (hk_NoWheel : PySem.W.findIn K (.ref p_NoWheel) "__getattr__" = some none)
    (ha_NoWheel : PySem.W.findIn K (.ref p_NoWheel) "__class__" = some (some (.builtin "object.__class__")))
    (hm_NoWheel : PySem.W.mroIn K p_NoWheel (.type "object") = some true)
    (sv_NoWheel : PySem.W.subIn K (.ref p_NoWheel) (.type "ValueError") = some true)
    (s_NoWheel_HandError : PySem.W.subIn K (.ref p_NoWheel) (.ref p_HandError) = some true)
    (s_NoWheel_NoWheel : PySem.W.subIn K (.ref p_NoWheel) (.ref p_NoWheel) = some true)
    (s_NoWheel_NoBeats : PySem.W.subIn K (.ref p_NoWheel) (.ref p_NoBeats) = some false)
    (hg_NoBeats : PySem.W.findIn K (.ref p_NoBeats) "__getattribute__" = some (some (.builtin "BaseException.__getattribute__")))
    (hk_NoBeats : PySem.W.findIn K (.ref p_NoBeats) "__getattr__" = some none)
    (ha_NoBeats : PySem.W.findIn K (.ref p_NoBeats) "__class__" = some (some (.builtin "object.__class__")))
    (hm_NoBeats : PySem.W.mroIn K p_NoBeats (.type "object") = some true)
    (sv_NoBeats : PySem.W.subIn K (.ref p_NoBeats) (.type "ValueError") = some true)
    (s_NoBeats_HandError : PySem.W.subIn K (.ref p_NoBeats) (.ref p_HandError) = some true)
    (s_NoBeats_NoWheel : PySem.W.subIn K (.ref p_NoBeats) (.ref p_NoWheel) = some false)
    (s_NoBeats_NoBeats : PySem.W.subIn K (.ref p_NoBeats) (.ref p_NoBeats) = some true)
    (a_Wheel : PySem.W.nsIn K mainGlobals "Wheel" = some (some (.ref p_Wheel)))
    (w_pg : PySem.W.plainGet K p_Wheel Str.empty = true)
    (w_hd : PySem.W.hasDictIn K p_Wheel = true)
    (w_po : PySem.W.plainOver K p_Wheel = true)
    (w_sa : PySem.W.findIn K (.ref p_Wheel) "__setattr__" = some (some (.builtin "object.__setattr__")))
    (w_mk : PySem.W.makesIn K p_Wheel = true)
    (w_kc : PySem.W.keepIn K (.ref p_Wheel) = true)
    (w_ha : PySem.W.findIn K (.ref p_Wheel) "__class__" = some (some (.builtin "object.__class__")))
    (w_hm : PySem.W.mroIn K p_Wheel (.type "object") = some true)
    (w_si : PySem.W.subIn K (.ref p_Wheel) (.type "int") = some false)
    (w_sb : PySem.W.subIn K (.ref p_Wheel) (.type "bool") = some false)
    (n_size : PySem.W.findIn K (.ref p_Wheel) "size" = some none)
    (n_step : PySem.W.findIn K (.ref p_Wheel) "step" = some none)
    (n_start : PySem.W.findIn K (.ref p_Wheel) "start" = some none)
    (n_lap : PySem.W.findIn K (.ref p_Wheel) "lap" = some none)
    (a_wall : PySem.W.nsIn K mainGlobals "_wall" = some (some (.ref p_wall)))
    (l_wall : K.lookup p_wall = some ⟨oc_wall, od_wall, .func (PySem.W.fnOf "_wall" "_wall" (defArgs s_wall) (defBody s_wall) (defScope s_wall) .none kV_wall dc_wall pm_wall an_wall cd_wall ct_wall), sl_wall⟩)
    (c_wall : PySem.W.codeIn K cd_wall "_wall" = true)
    (k_wall : PySem.W.keepIn K (.ref p_wall) = true)
    (a_is_whole : PySem.W.nsIn K mainGlobals "is_whole" = some (some (.ref p_is_whole)))
    (l_is_whole : K.lookup p_is_whole = some ⟨oc_is_whole, od_is_whole, .func (PySem.W.fnOf "is_whole" "is_whole" (defArgs s_is_whole) (defBody s_is_whole) (defScope s_is_whole) .none kV_is_whole dc_is_whole pm_is_whole an_is_whole cd_is_whole ct_is_whole), sl_is_whole⟩)
    (c_is_whole : PySem.W.codeIn K cd_is_whole "is_whole" = true)
    (k_is_whole : PySem.W.keepIn K (.ref p_is_whole) = true)
    (a_common : PySem.W.nsIn K mainGlobals "common" = some (some (.ref p_common)))
    (l_common : K.lookup p_common = some ⟨oc_common, od_common, .func (PySem.W.fnOf "common" "common" (defArgs s_common) (defBody s_common) (defScope s_common) .none kV_common dc_common pm_common an_common cd_common ct_common), sl_common⟩)
    (c_common : PySem.W.codeIn K cd_common "common" = true)
    (k_common : PySem.W.keepIn K (.ref p_common) = true)
    (a_Wheel_init : PySem.W.findIn K (.ref p_Wheel) "__init__" = some (some (.ref p_Wheel_init)))
    (l_Wheel_init : K.lookup p_Wheel_init = some ⟨oc_Wheel_init, od_Wheel_init, .func (PySem.W.fnOf "__init__" "Wheel.__init__" (defArgs s_Wheel_init) (defBody s_Wheel_init) (defScope s_Wheel_init) (.ref pt_Wheel_init) kV_Wheel_init dc_Wheel_init pm_Wheel_init an_Wheel_init cd_Wheel_init ct_Wheel_init), sl_Wheel_init⟩)
    (c_Wheel_init : PySem.W.codeIn K cd_Wheel_init "Wheel.__init__" = true)
    (k_Wheel_init : PySem.W.keepIn K (.ref p_Wheel_init) = true)
    (i_Wheel_init : PySem.W.isFn K (.ref p_Wheel_init) = true)
    (t_Wheel_init : K.lookup pt_Wheel_init = some ⟨.type "tuple", otd_Wheel_init, .seq [.int 0 ott_Wheel_init].toArray otn_Wheel_init, ots_Wheel_init⟩)
    (a_Wheel_reached : PySem.W.findIn K (.ref p_Wheel) "reached" = some (some (.ref p_Wheel_reached)))
    (l_Wheel_reached : K.lookup p_Wheel_reached = some ⟨oc_Wheel_reached, od_Wheel_reached, .func (PySem.W.fnOf "reached" "Wheel.reached" (defArgs s_Wheel_reached) (defBody s_Wheel_reached) (defScope s_Wheel_reached) .none kV_Wheel_reached dc_Wheel_reached pm_Wheel_reached an_Wheel_reached cd_Wheel_reached ct_Wheel_reached), sl_Wheel_reached⟩)
    (c_Wheel_reached : PySem.W.codeIn K cd_Wheel_reached "Wheel.reached" = true)
    (k_Wheel_reached : PySem.W.keepIn K (.ref p_Wheel_reached) = true)
    (i_Wheel_reached : PySem.W.isFn K (.ref p_Wheel_reached) = true)
    (a_Wheel_place : PySem.W.findIn K (.ref p_Wheel) "place" = some (some (.ref p_Wheel_place)))
    (l_Wheel_place : K.lookup p_Wheel_place = some ⟨oc_Wheel_place, od_Wheel_place, .func (PySem.W.fnOf "place" "Wheel.place" (defArgs s_Wheel_place) (defBody s_Wheel_place) (defScope s_Wheel_place) .none kV_Wheel_place dc_Wheel_place pm_Wheel_place an_Wheel_place cd_Wheel_place ct_Wheel_place), sl_Wheel_place⟩)
    (c_Wheel_place : PySem.W.codeIn K cd_Wheel_place "Wheel.place" = true)
    (k_Wheel_place : PySem.W.keepIn K (.ref p_Wheel_place) = true)
    (i_Wheel_place : PySem.W.isFn K (.ref p_Wheel_place) = true)
    (a_Wheel_turns : PySem.W.findIn K (.ref p_Wheel) "turns" = some (some (.ref p_Wheel_turns)))
    (l_Wheel_turns : K.lookup p_Wheel_turns = some ⟨oc_Wheel_turns, od_Wheel_turns, .func (PySem.W.fnOf "turns" "Wheel.turns" (defArgs s_Wheel_turns) (defBody s_Wheel_turns) (defScope s_Wheel_turns) .none kV_Wheel_turns dc_Wheel_turns pm_Wheel_turns an_Wheel_turns cd_Wheel_turns ct_Wheel_turns), sl_Wheel_turns⟩)
    (c_Wheel_turns : PySem.W.codeIn K cd_Wheel_turns "Wheel.turns" = true)
    (k_Wheel_turns : PySem.W.keepIn K (.ref p_Wheel_turns) = true)
    (i_Wheel_turns : PySem.W.isFn K (.ref p_Wheel_turns) = true)
    (a_need_first : PySem.W.nsIn K mainGlobals "need_first" = some (some (.ref p_need_first)))
    (l_need_first : K.lookup p_need_first = some ⟨oc_need_first, od_need_first, .func (PySem.W.fnOf "need_first" "need_first" (defArgs s_need_first) (defBody s_need_first) (defScope s_need_first) .none kV_need_first dc_need_first pm_need_first an_need_first cd_need_first ct_need_first), sl_need_first⟩)
    (c_need_first : PySem.W.codeIn K cd_need_first "need_first" = true)
    (k_need_first : PySem.W.keepIn K (.ref p_need_first) = true)
    (a_around : PySem.W.nsIn K mainGlobals "around" = some (some (.ref p_around)))
    (l_around : K.lookup p_around = some ⟨oc_around, od_around, .func (PySem.W.fnOf "around" "around" (defArgs s_around) (defBody s_around) (defScope s_around) .none kV_around dc_around pm_around an_around cd_around ct_around), sl_around⟩)
    (c_around : PySem.W.codeIn K cd_around "around" = true)
    (k_around : PySem.W.keepIn K (.ref p_around) = true)
    (a_gaps : PySem.W.nsIn K mainGlobals "gaps" = some (some (.ref p_gaps)))
    (l_gaps : K.lookup p_gaps = some ⟨oc_gaps, od_gaps, .func (PySem.W.fnOf "gaps" "gaps" (defArgs s_gaps) (defBody s_gaps) (defScope s_gaps) .none kV_gaps dc_gaps pm_gaps an_gaps cd_gaps ct_gaps), sl_gaps⟩)
    (c_gaps : PySem.W.codeIn K cd_gaps "gaps" = true)
    (k_gaps : PySem.W.keepIn K (.ref p_gaps) = true)
    (a_law_cell_at : PySem.W.nsIn K mainGlobals "_law_cell_at" = some (some (.ref p_law_cell_at)))
    (l_law_cell_at : K.lookup p_law_cell_at = some ⟨oc_law_cell_at, od_law_cell_at, .func (PySem.W.fnOf "_law_cell_at" "_law_cell_at" (defArgs s_law_cell_at) (defBody s_law_cell_at) (defScope s_law_cell_at) .none kV_law_cell_at dc_law_cell_at pm_law_cell_at an_law_cell_at cd_law_cell_at ct_law_cell_at), sl_law_cell_at⟩)
    (c_law_cell_at : PySem.W.codeIn K cd_law_cell_at "_law_cell_at" = true)
    (k_law_cell_at : PySem.W.keepIn K (.ref p_law_cell_at) = true)
    (a_law_whole : PySem.W.nsIn K mainGlobals "_law_whole" = some (some (.ref p_law_whole)))
    (l_law_whole : K.lookup p_law_whole = some ⟨oc_law_whole, od_law_whole, .func (PySem.W.fnOf "_law_whole" "_law_whole" (defArgs s_law_whole) (defBody s_law_whole) (defScope s_law_whole) .none kV_law_whole dc_law_whole pm_law_whole an_law_whole cd_law_whole ct_law_whole), sl_law_whole⟩)
    (c_law_whole : PySem.W.codeIn K cd_law_whole "_law_whole" = true)
    (k_law_whole : PySem.W.keepIn K (.ref p_law_whole) = true)
    (a_law_divisor : PySem.W.nsIn K mainGlobals "_law_divisor" = some (some (.ref p_law_divisor)))
    (l_law_divisor : K.lookup p_law_divisor = some ⟨oc_law_divisor, od_law_divisor, .func (PySem.W.fnOf "_law_divisor" "_law_divisor" (defArgs s_law_divisor) (defBody s_law_divisor) (defScope s_law_divisor) .none kV_law_divisor dc_law_divisor pm_law_divisor an_law_divisor cd_law_divisor ct_law_divisor), sl_law_divisor⟩)
    (c_law_divisor : PySem.W.codeIn K cd_law_divisor "_law_divisor" = true)
    (k_law_divisor : PySem.W.keepIn K (.ref p_law_divisor) = true)
    (a_law_signed : PySem.W.nsIn K mainGlobals "_law_signed" = some (some (.ref p_law_signed)))
    (l_law_signed : K.lookup p_law_signed = some ⟨oc_law_signed, od_law_signed, .func (PySem.W.fnOf "_law_signed" "_law_signed" (defArgs s_law_signed) (defBody s_law_signed) (defScope s_law_signed) .none kV_law_signed dc_law_signed pm_law_signed an_law_signed cd_law_signed ct_law_signed), sl_law_signed⟩)
    (c_law_signed : PySem.W.codeIn K cd_law_signed "_law_signed" = true)
    (k_law_signed : PySem.W.keepIn K (.ref p_law_signed) = true)
    (a_law_drawn : PySem.W.nsIn K mainGlobals "_law_drawn" = some (some (.ref p_law_drawn)))
    (l_law_drawn : K.lookup p_law_drawn = some ⟨oc_law_drawn, od_law_drawn, .func (PySem.W.fnOf "_law_drawn" "_law_drawn" (defArgs s_law_drawn) (defBody s_law_drawn) (defScope s_law_drawn) .none kV_law_drawn dc_law_drawn pm_law_drawn an_law_drawn cd_law_drawn ct_law_drawn), sl_law_drawn⟩)
    (c_law_drawn : PySem.W.codeIn K cd_law_drawn "_law_drawn" = true)
    (k_law_drawn : PySem.W.keepIn K (.ref p_law_drawn) = true)
    (a_law_shown : PySem.W.nsIn K mainGlobals "_law_shown" = some (some (.ref p_law_shown)))
    (l_law_shown : K.lookup p_law_shown = some ⟨oc_law_shown, od_law_shown, .func (PySem.W.fnOf "_law_shown" "_law_shown" (defArgs s_law_shown) (defBody s_law_shown) (defScope s_law_shown) .none kV_law_shown dc_law_shown pm_law_shown an_law_shown cd_law_shown ct_law_shown), sl_law_shown⟩)
    (c_law_shown : PySem.W.codeIn K cd_law_shown "_law_shown" = true)
    (k_law_shown : PySem.W.keepIn K (.ref p_law_shown) = true)
    (a_law_good : PySem.W.nsIn K mainGlobals "_law_good" = some (some (.ref p_law_good)))
    (l_law_good : K.lookup p_law_good = some ⟨oc_law_good, od_law_good, .func (PySem.W.fnOf "_law_good" "_law_good" (defArgs s_law_good) (defBody s_law_good) (defScope s_law_good) .none kV_law_good dc_law_good pm_law_good an_law_good cd_law_good ct_law_good), sl_law_good⟩)
    (c_law_good : PySem.W.codeIn K cd_law_good "_law_good" = true)
    (k_law_good : PySem.W.keepIn K (.ref p_law_good) = true)
    (a_law_told : PySem.W.nsIn K mainGlobals "_law_told" = some (some (.ref p_law_told)))
    (l_law_told : K.lookup p_law_told = some ⟨oc_law_told, od_law_told, .func (PySem.W.fnOf "_law_told" "_law_told" (defArgs s_law_told) (defBody s_law_told) (defScope s_law_told) .none kV_law_told dc_law_told pm_law_told an_law_told cd_law_told ct_law_told), sl_law_told⟩)
    (c_law_told : PySem.W.codeIn K cd_law_told "_law_told" = true)
    (k_law_told : PySem.W.keepIn K (.ref p_law_told) = true)
    (a_law_counted : PySem.W.nsIn K mainGlobals "_law_counted" = some (some (.ref p_law_counted)))
    (l_law_counted : K.lookup p_law_counted = some ⟨oc_law_counted, od_law_counted, .func (PySem.W.fnOf "_law_counted" "_law_counted" (defArgs s_law_counted) (defBody s_law_counted) (defScope s_law_counted) .none kV_law_counted dc_law_counted pm_law_counted an_law_counted cd_law_counted ct_law_counted), sl_law_counted⟩)
    (c_law_counted : PySem.W.codeIn K cd_law_counted "_law_counted" = true)
    (k_law_counted : PySem.W.keepIn K (.ref p_law_counted) = true)
    (a_law_stands : PySem.W.nsIn K mainGlobals "_law_stands" = some (some (.ref p_law_stands)))
    (l_law_stands : K.lookup p_law_stands = some ⟨oc_law_stands, od_law_stands, .func (PySem.W.fnOf "_law_stands" "_law_stands" (defArgs s_law_stands) (defBody s_law_stands) (defScope s_law_stands) .none kV_law_stands dc_law_stands pm_law_stands an_law_stands cd_law_stands ct_law_stands), sl_law_stands⟩)
    (c_law_stands : PySem.W.codeIn K cd_law_stands "_law_stands" = true)
    (k_law_stands : PySem.W.keepIn K (.ref p_law_stands) = true)
    (a_law_manies : PySem.W.nsIn K mainGlobals "_law_manies" = some (some (.ref p_law_manies)))
    (l_law_manies : K.lookup p_law_manies = some ⟨oc_law_manies, od_law_manies, .func (PySem.W.fnOf "_law_manies" "_law_manies" (defArgs s_law_manies) (defBody s_law_manies) (defScope s_law_manies) .none kV_law_manies dc_law_manies pm_law_manies an_law_manies cd_law_manies ct_law_manies), sl_law_manies⟩)
    (c_law_manies : PySem.W.codeIn K cd_law_manies "_law_manies" = true)
    (k_law_manies : PySem.W.keepIn K (.ref p_law_manies) = true)
    (a_law_refused : PySem.W.nsIn K mainGlobals "_law_refused" = some (some (.ref p_law_refused)))
    (l_law_refused : K.lookup p_law_refused = some ⟨oc_law_refused, od_law_refused, .func (PySem.W.fnOf "_law_refused" "_law_refused" (defArgs s_law_refused) (defBody s_law_refused) (defScope s_law_refused) .none kV_law_refused dc_law_refused pm_law_refused an_law_refused cd_law_refused ct_law_refused), sl_law_refused⟩)
    (c_law_refused : PySem.W.codeIn K cd_law_refused "_law_refused" = true)
    (k_law_refused : PySem.W.keepIn K (.ref p_law_refused) = true)
    (a_law : PySem.W.nsIn K mainGlobals "law" = some (some (.ref p_law)))
    (l_law : K.lookup p_law = some ⟨oc_law, od_law, .func (PySem.W.fnOf "law" "law" (defArgs s_law) (defBody s_law) (defScope s_law) .none kV_law dc_law pm_law an_law cd_law ct_law), sl_law⟩)
    (c_law : PySem.W.codeIn K cd_law "law" = true)
    (k_law : PySem.W.keepIn K (.ref p_law) = true)
    (z_ValueError : PySem.W.nsIn K mainGlobals "ValueError" = some none)
    (z_sorted : PySem.W.nsIn K mainGlobals "sorted" = some none)
    (z_range : PySem.W.nsIn K mainGlobals "range" = some none)
    (z_list : PySem.W.nsIn K mainGlobals "list" = some none)
    (z_isinstance : PySem.W.nsIn K mainGlobals "isinstance" = some none)
    (z_int : PySem.W.nsIn K mainGlobals "int" = some none)
    (z_len : PySem.W.nsIn K mainGlobals "len" = some none)
    (z_bool : PySem.W.nsIn K mainGlobals "bool" = some none)
    (z_min : PySem.W.nsIn K mainGlobals "min" = some none)
    (z_tuple : PySem.W.nsIn K mainGlobals "tuple" = some none)
    (z_max : PySem.W.nsIn K mainGlobals "max" = some none)
    (z_abs : PySem.W.nsIn K mainGlobals "abs" = some none)
    : ∃ fd : FuncData, (∀ (s : Shared) (v : Value), BindsTo s fd ⟨[v], []⟩ [("_law_script", v)]) ∧ ∀ base : Heap, K.In base → base.Ns mainGlobals mg → FnOk l.prog w K mg base CX0 6 fa fd ["_law_script"] (sp_law K) := by
  have e := hfa.symm.trans (PySem.W.mg_of X G a_law)
  cases e
  have F_wall := fun_mk (st := s_wall) l_wall c_wall k_wall
  have b_wall := F_wall.binds (ps := ["k"]) fun _ _ _ _ _ _ us hl => match us, hl with | [_], _ => rfl
  have F_is_whole := fun_mk (st := s_is_whole) l_is_whole c_is_whole k_is_whole
  have b_is_whole := F_is_whole.binds (ps := ["thing"]) fun _ _ _ _ _ _ us hl => match us, hl with | [_], _ => rfl
  have F_common := fun_mk (st := s_common) l_common c_common k_common
  have b_common := F_common.binds (ps := ["one", "other"]) fun _ _ _ _ _ _ us hl => match us, hl with | [_, _], _ => rfl
  have F_Wheel_init : FunD K "__init__" "Wheel.__init__" (defArgs s_Wheel_init) (defBody s_Wheel_init) (defScope s_Wheel_init) [.int 0] [] p_Wheel_init (PySem.W.fnOf "__init__" "Wheel.__init__" (defArgs s_Wheel_init) (defBody s_Wheel_init) (defScope s_Wheel_init) (.ref pt_Wheel_init) kV_Wheel_init dc_Wheel_init pm_Wheel_init an_Wheel_init cd_Wheel_init ct_Wheel_init) := ⟨⟨_, _, _, _, _, _, _, _, _, _, rfl, l_Wheel_init, c_Wheel_init, .inr ⟨List.cons_ne_nil _ _, pt_Wheel_init, _, [.int 0 ott_Wheel_init], otn_Wheel_init, rfl, t_Wheel_init, rfl, .cons ⟨_, rfl⟩ .nil⟩, .inl rfl⟩, k_Wheel_init⟩
  obtain ⟨d3_Wheel_init, v3_Wheel_init, b3_Wheel_init⟩ := F_Wheel_init.binds1 (ps := ["self", "size", "step", "start"]) 4 1 (by decide) rfl fun _ _ _ _ _ _ _ us its hu hi => match us, its, hu, hi with | [_, _, _, _], [_], _, _ => ⟨_, rfl, rfl⟩
  obtain ⟨d2_Wheel_init, v2_Wheel_init, b2_Wheel_init⟩ := F_Wheel_init.binds1 (ps := ["self", "size", "step", "start"]) 3 0 (by decide) rfl fun _ _ _ _ _ _ _ us its hu hi => match us, its, hu, hi with | [_, _, _], [_], _, _ => ⟨_, rfl, rfl⟩
  have F_Wheel_reached := fun_mk (st := s_Wheel_reached) l_Wheel_reached c_Wheel_reached k_Wheel_reached
  have b_Wheel_reached := F_Wheel_reached.binds (ps := ["self", "beat"]) fun _ _ _ _ _ _ us hl => match us, hl with | [_, _], _ => rfl
  have F_Wheel_place := fun_mk (st := s_Wheel_place) l_Wheel_place c_Wheel_place k_Wheel_place
  have b_Wheel_place := F_Wheel_place.binds (ps := ["self", "beat"]) fun _ _ _ _ _ _ us hl => match us, hl with | [_, _], _ => rfl
  have F_Wheel_turns := fun_mk (st := s_Wheel_turns) l_Wheel_turns c_Wheel_turns k_Wheel_turns
  have b_Wheel_turns := F_Wheel_turns.binds (ps := ["self", "beat"]) fun _ _ _ _ _ _ us hl => match us, hl with | [_, _], _ => rfl
  have F_need_first := fun_mk (st := s_need_first) l_need_first c_need_first k_need_first
  have b_need_first := F_need_first.binds (ps := ["wheel", "many", "least"]) fun _ _ _ _ _ _ us hl => match us, hl with | [_, _, _], _ => rfl
  have F_around := fun_mk (st := s_around) l_around c_around k_around
  have b_around := F_around.binds (ps := ["wheel", "many"]) fun _ _ _ _ _ _ us hl => match us, hl with | [_, _], _ => rfl
  have F_gaps := fun_mk (st := s_gaps) l_gaps c_gaps k_gaps
  have b_gaps := F_gaps.binds (ps := ["wheel", "many"]) fun _ _ _ _ _ _ us hl => match us, hl with | [_, _], _ => rfl
  have F_law_cell_at := fun_mk (st := s_law_cell_at) l_law_cell_at c_law_cell_at k_law_cell_at
  have b_law_cell_at := F_law_cell_at.binds (ps := ["_law_script", "_law_k"]) fun _ _ _ _ _ _ us hl => match us, hl with | [_, _], _ => rfl
  have F_law_whole := fun_mk (st := s_law_whole) l_law_whole c_law_whole k_law_whole
  have b_law_whole := F_law_whole.binds (ps := ["_law_found"]) fun _ _ _ _ _ _ us hl => match us, hl with | [_], _ => rfl
  have F_law_divisor := fun_mk (st := s_law_divisor) l_law_divisor c_law_divisor k_law_divisor
  have b_law_divisor := F_law_divisor.binds (ps := ["_law_one", "_law_other"]) fun _ _ _ _ _ _ us hl => match us, hl with | [_, _], _ => rfl
  have F_law_signed := fun_mk (st := s_law_signed) l_law_signed c_law_signed k_law_signed
  have b_law_signed := F_law_signed.binds (ps := ["_law_cell", "_law_share"]) fun _ _ _ _ _ _ us hl => match us, hl with | [_, _], _ => rfl
  have F_law_drawn := fun_mk (st := s_law_drawn) l_law_drawn c_law_drawn k_law_drawn
  have b_law_drawn := F_law_drawn.binds (ps := ["_law_script"]) fun _ _ _ _ _ _ us hl => match us, hl with | [_], _ => rfl
  have F_law_shown := fun_mk (st := s_law_shown) l_law_shown c_law_shown k_law_shown
  have b_law_shown := F_law_shown.binds (ps := ["_law_found", "_law_size", "_law_step", "_law_many"]) fun _ _ _ _ _ _ us hl => match us, hl with | [_, _, _, _], _ => rfl
  have F_law_good := fun_mk (st := s_law_good) l_law_good c_law_good k_law_good
  have b_law_good := F_law_good.binds (ps := ["_law_found", "_law_size", "_law_many"]) fun _ _ _ _ _ _ us hl => match us, hl with | [_, _, _], _ => rfl
  have F_law_told := fun_mk (st := s_law_told) l_law_told c_law_told k_law_told
  have b_law_told := F_law_told.binds (ps := ["_law_four", "_law_many"]) fun _ _ _ _ _ _ us hl => match us, hl with | [_, _], _ => rfl
  have F_law_counted := fun_mk (st := s_law_counted) l_law_counted c_law_counted k_law_counted
  have b_law_counted := F_law_counted.binds (ps := ["_law_size", "_law_step", "_law_many"]) fun _ _ _ _ _ _ us hl => match us, hl with | [_, _, _], _ => rfl
  have F_law_stands := fun_mk (st := s_law_stands) l_law_stands c_law_stands k_law_stands
  have b_law_stands := F_law_stands.binds (ps := ["_law_wheel", "_law_size", "_law_step", "_law_many"]) fun _ _ _ _ _ _ us hl => match us, hl with | [_, _, _, _], _ => rfl
  have F_law_manies := fun_mk (st := s_law_manies) l_law_manies c_law_manies k_law_manies
  have b_law_manies := F_law_manies.binds (ps := ["_law_script", "_law_size", "_law_lap"]) fun _ _ _ _ _ _ us hl => match us, hl with | [_, _, _], _ => rfl
  have F_law_refused := fun_mk (st := s_law_refused) l_law_refused c_law_refused k_law_refused
  have b_law_refused := F_law_refused.binds (ps := ["_law_wheel", "_law_many"]) fun _ _ _ _ _ _ us hl => match us, hl with | [_, _], _ => rfl
  have F_law := fun_mk (st := s_law) l_law c_law k_law
  have b_law := F_law.binds (ps := ["_law_script"]) fun _ _ _ _ _ _ us hl => match us, hl with | [_], _ => rfl
  let T : Txt K mg := {
    C_HandError := p_HandError,
    g_HandError := PySem.W.mg_of X G a_HandError,
    C_NoWheel := p_NoWheel,
    g_NoWheel := PySem.W.mg_of X G a_NoWheel,
    x_NoWheel := x_NoWheel,
    k_NoWheel := k_NoWheel,
    eb_NoWheel := eb_NoWheel,
    et_NoWheel := et_NoWheel,
    C_NoBeats := p_NoBeats,
    g_NoBeats := PySem.W.mg_of X G a_NoBeats,
    x_NoBeats := x_NoBeats,
    k_NoBeats := k_NoBeats,
    eb_NoBeats := eb_NoBeats,
    et_NoBeats := et_NoBeats,
    e_NoWheel := ⟨hg_NoWheel, hk_NoWheel, eb_NoWheel, hd_NoWheel, ha_NoWheel, u_n, u_t, hm_NoWheel⟩,
    qv_NoWheel := kit_typ (by decide +kernel) sv_NoWheel,
    q_NoWheel_HandError := kit_ref hd_HandError et_HandError s_NoWheel_HandError s_NoWheel_NoWheel,
    q_NoWheel_NoWheel := kit_ref hd_NoWheel et_NoWheel s_NoWheel_NoWheel s_NoWheel_NoWheel,
    q_NoWheel_NoBeats := kit_ref hd_NoBeats et_NoBeats s_NoWheel_NoBeats s_NoWheel_NoWheel,
    x_NoWheel_NoBeats := PySem.W.exm_ref eb_NoBeats hd_NoBeats et_NoBeats s_NoWheel_NoBeats,
    e_NoBeats := ⟨hg_NoBeats, hk_NoBeats, eb_NoBeats, hd_NoBeats, ha_NoBeats, u_n, u_t, hm_NoBeats⟩,
    qv_NoBeats := kit_typ (by decide +kernel) sv_NoBeats,
    q_NoBeats_HandError := kit_ref hd_HandError et_HandError s_NoBeats_HandError s_NoBeats_NoBeats,
    q_NoBeats_NoWheel := kit_ref hd_NoWheel et_NoWheel s_NoBeats_NoWheel s_NoBeats_NoBeats,
    q_NoBeats_NoBeats := kit_ref hd_NoBeats et_NoBeats s_NoBeats_NoBeats s_NoBeats_NoBeats,
    x_NoBeats_NoBeats := PySem.W.exm_ref eb_NoBeats hd_NoBeats et_NoBeats s_NoBeats_NoBeats,
    C_Wheel := p_Wheel,
    g_Wheel := PySem.W.mg_of X G a_Wheel,
    c_Wheel := ⟨w_pg, w_hd, w_po, w_sa⟩,
    kind_Wheel := fun H p dx fs h => ⟨_, false, false, .base (.ins h ⟨w_pg, w_hd, w_po, w_sa⟩ w_ha u_n u_t w_hm), kit_typ (by decide +kernel) w_si, kit_typ (by decide +kernel) w_sb, rfl⟩,
    n_size := n_size,
    n_step := n_step,
    n_start := n_start,
    n_lap := n_lap,
    a_wall := p_wall,
    fd_wall := PySem.W.fnOf "_wall" "_wall" (defArgs s_wall) (defBody s_wall) (defScope s_wall) .none kV_wall dc_wall pm_wall an_wall cd_wall ct_wall,
    F_wall := F_wall,
    b_wall := b_wall,
    g_wall := PySem.W.mg_of X G a_wall,
    a_is_whole := p_is_whole,
    fd_is_whole := PySem.W.fnOf "is_whole" "is_whole" (defArgs s_is_whole) (defBody s_is_whole) (defScope s_is_whole) .none kV_is_whole dc_is_whole pm_is_whole an_is_whole cd_is_whole ct_is_whole,
    F_is_whole := F_is_whole,
    b_is_whole := b_is_whole,
    g_is_whole := PySem.W.mg_of X G a_is_whole,
    a_common := p_common,
    fd_common := PySem.W.fnOf "common" "common" (defArgs s_common) (defBody s_common) (defScope s_common) .none kV_common dc_common pm_common an_common cd_common ct_common,
    F_common := F_common,
    b_common := b_common,
    g_common := PySem.W.mg_of X G a_common,
    a_Wheel_init := p_Wheel_init,
    fd_Wheel_init := PySem.W.fnOf "__init__" "Wheel.__init__" (defArgs s_Wheel_init) (defBody s_Wheel_init) (defScope s_Wheel_init) (.ref pt_Wheel_init) kV_Wheel_init dc_Wheel_init pm_Wheel_init an_Wheel_init cd_Wheel_init ct_Wheel_init,
    F_Wheel_init := F_Wheel_init,
    d3_Wheel_init := d3_Wheel_init,
    v3_Wheel_init := v3_Wheel_init,
    b3_Wheel_init := b3_Wheel_init,
    d2_Wheel_init := d2_Wheel_init,
    v2_Wheel_init := v2_Wheel_init,
    b2_Wheel_init := b2_Wheel_init,
    m_Wheel_init := ⟨a_Wheel_init, i_Wheel_init, k_Wheel_init⟩,
    M_Wheel := ⟨w_mk, a_Wheel_init, i_Wheel_init, w_kc⟩,
    a_Wheel_reached := p_Wheel_reached,
    fd_Wheel_reached := PySem.W.fnOf "reached" "Wheel.reached" (defArgs s_Wheel_reached) (defBody s_Wheel_reached) (defScope s_Wheel_reached) .none kV_Wheel_reached dc_Wheel_reached pm_Wheel_reached an_Wheel_reached cd_Wheel_reached ct_Wheel_reached,
    F_Wheel_reached := F_Wheel_reached,
    b_Wheel_reached := b_Wheel_reached,
    m_Wheel_reached := ⟨a_Wheel_reached, i_Wheel_reached, k_Wheel_reached⟩,
    a_Wheel_place := p_Wheel_place,
    fd_Wheel_place := PySem.W.fnOf "place" "Wheel.place" (defArgs s_Wheel_place) (defBody s_Wheel_place) (defScope s_Wheel_place) .none kV_Wheel_place dc_Wheel_place pm_Wheel_place an_Wheel_place cd_Wheel_place ct_Wheel_place,
    F_Wheel_place := F_Wheel_place,
    b_Wheel_place := b_Wheel_place,
    m_Wheel_place := ⟨a_Wheel_place, i_Wheel_place, k_Wheel_place⟩,
    a_Wheel_turns := p_Wheel_turns,
    fd_Wheel_turns := PySem.W.fnOf "turns" "Wheel.turns" (defArgs s_Wheel_turns) (defBody s_Wheel_turns) (defScope s_Wheel_turns) .none kV_Wheel_turns dc_Wheel_turns pm_Wheel_turns an_Wheel_turns cd_Wheel_turns ct_Wheel_turns,
    F_Wheel_turns := F_Wheel_turns,
    b_Wheel_turns := b_Wheel_turns,
    m_Wheel_turns := ⟨a_Wheel_turns, i_Wheel_turns, k_Wheel_turns⟩,
    a_need_first := p_need_first,
    fd_need_first := PySem.W.fnOf "need_first" "need_first" (defArgs s_need_first) (defBody s_need_first) (defScope s_need_first) .none kV_need_first dc_need_first pm_need_first an_need_first cd_need_first ct_need_first,
    F_need_first := F_need_first,
    b_need_first := b_need_first,
    g_need_first := PySem.W.mg_of X G a_need_first,
    a_around := p_around,
    fd_around := PySem.W.fnOf "around" "around" (defArgs s_around) (defBody s_around) (defScope s_around) .none kV_around dc_around pm_around an_around cd_around ct_around,
    F_around := F_around,
    b_around := b_around,
    g_around := PySem.W.mg_of X G a_around,
    a_gaps := p_gaps,
    fd_gaps := PySem.W.fnOf "gaps" "gaps" (defArgs s_gaps) (defBody s_gaps) (defScope s_gaps) .none kV_gaps dc_gaps pm_gaps an_gaps cd_gaps ct_gaps,
    F_gaps := F_gaps,
    b_gaps := b_gaps,
    g_gaps := PySem.W.mg_of X G a_gaps,
    a_law_cell_at := p_law_cell_at,
    fd_law_cell_at := PySem.W.fnOf "_law_cell_at" "_law_cell_at" (defArgs s_law_cell_at) (defBody s_law_cell_at) (defScope s_law_cell_at) .none kV_law_cell_at dc_law_cell_at pm_law_cell_at an_law_cell_at cd_law_cell_at ct_law_cell_at,
    F_law_cell_at := F_law_cell_at,
    b_law_cell_at := b_law_cell_at,
    g_law_cell_at := PySem.W.mg_of X G a_law_cell_at,
    a_law_whole := p_law_whole,
    fd_law_whole := PySem.W.fnOf "_law_whole" "_law_whole" (defArgs s_law_whole) (defBody s_law_whole) (defScope s_law_whole) .none kV_law_whole dc_law_whole pm_law_whole an_law_whole cd_law_whole ct_law_whole,
    F_law_whole := F_law_whole,
    b_law_whole := b_law_whole,
    g_law_whole := PySem.W.mg_of X G a_law_whole,
    a_law_divisor := p_law_divisor,
    fd_law_divisor := PySem.W.fnOf "_law_divisor" "_law_divisor" (defArgs s_law_divisor) (defBody s_law_divisor) (defScope s_law_divisor) .none kV_law_divisor dc_law_divisor pm_law_divisor an_law_divisor cd_law_divisor ct_law_divisor,
    F_law_divisor := F_law_divisor,
    b_law_divisor := b_law_divisor,
    g_law_divisor := PySem.W.mg_of X G a_law_divisor,
    a_law_signed := p_law_signed,
    fd_law_signed := PySem.W.fnOf "_law_signed" "_law_signed" (defArgs s_law_signed) (defBody s_law_signed) (defScope s_law_signed) .none kV_law_signed dc_law_signed pm_law_signed an_law_signed cd_law_signed ct_law_signed,
    F_law_signed := F_law_signed,
    b_law_signed := b_law_signed,
    g_law_signed := PySem.W.mg_of X G a_law_signed,
    a_law_drawn := p_law_drawn,
    fd_law_drawn := PySem.W.fnOf "_law_drawn" "_law_drawn" (defArgs s_law_drawn) (defBody s_law_drawn) (defScope s_law_drawn) .none kV_law_drawn dc_law_drawn pm_law_drawn an_law_drawn cd_law_drawn ct_law_drawn,
    F_law_drawn := F_law_drawn,
    b_law_drawn := b_law_drawn,
    g_law_drawn := PySem.W.mg_of X G a_law_drawn,
    a_law_shown := p_law_shown,
    fd_law_shown := PySem.W.fnOf "_law_shown" "_law_shown" (defArgs s_law_shown) (defBody s_law_shown) (defScope s_law_shown) .none kV_law_shown dc_law_shown pm_law_shown an_law_shown cd_law_shown ct_law_shown,
    F_law_shown := F_law_shown,
    b_law_shown := b_law_shown,
    g_law_shown := PySem.W.mg_of X G a_law_shown,
    a_law_good := p_law_good,
    fd_law_good := PySem.W.fnOf "_law_good" "_law_good" (defArgs s_law_good) (defBody s_law_good) (defScope s_law_good) .none kV_law_good dc_law_good pm_law_good an_law_good cd_law_good ct_law_good,
    F_law_good := F_law_good,
    b_law_good := b_law_good,
    g_law_good := PySem.W.mg_of X G a_law_good,
    a_law_told := p_law_told,
    fd_law_told := PySem.W.fnOf "_law_told" "_law_told" (defArgs s_law_told) (defBody s_law_told) (defScope s_law_told) .none kV_law_told dc_law_told pm_law_told an_law_told cd_law_told ct_law_told,
    F_law_told := F_law_told,
    b_law_told := b_law_told,
    g_law_told := PySem.W.mg_of X G a_law_told,
    a_law_counted := p_law_counted,
    fd_law_counted := PySem.W.fnOf "_law_counted" "_law_counted" (defArgs s_law_counted) (defBody s_law_counted) (defScope s_law_counted) .none kV_law_counted dc_law_counted pm_law_counted an_law_counted cd_law_counted ct_law_counted,
    F_law_counted := F_law_counted,
    b_law_counted := b_law_counted,
    g_law_counted := PySem.W.mg_of X G a_law_counted,
    a_law_stands := p_law_stands,
    fd_law_stands := PySem.W.fnOf "_law_stands" "_law_stands" (defArgs s_law_stands) (defBody s_law_stands) (defScope s_law_stands) .none kV_law_stands dc_law_stands pm_law_stands an_law_stands cd_law_stands ct_law_stands,
    F_law_stands := F_law_stands,
    b_law_stands := b_law_stands,
    g_law_stands := PySem.W.mg_of X G a_law_stands,
    a_law_manies := p_law_manies,
    fd_law_manies := PySem.W.fnOf "_law_manies" "_law_manies" (defArgs s_law_manies) (defBody s_law_manies) (defScope s_law_manies) .none kV_law_manies dc_law_manies pm_law_manies an_law_manies cd_law_manies ct_law_manies,
    F_law_manies := F_law_manies,
    b_law_manies := b_law_manies,
    g_law_manies := PySem.W.mg_of X G a_law_manies,
    a_law_refused := p_law_refused,
    fd_law_refused := PySem.W.fnOf "_law_refused" "_law_refused" (defArgs s_law_refused) (defBody s_law_refused) (defScope s_law_refused) .none kV_law_refused dc_law_refused pm_law_refused an_law_refused cd_law_refused ct_law_refused,
    F_law_refused := F_law_refused,
    b_law_refused := b_law_refused,
    g_law_refused := PySem.W.mg_of X G a_law_refused,
    a_law := fa,
    fd_law := PySem.W.fnOf "law" "law" (defArgs s_law) (defBody s_law) (defScope s_law) .none kV_law dc_law pm_law an_law cd_law ct_law,
    F_law := F_law,
    b_law := b_law,
    g_law := PySem.W.mg_of X G a_law,
    z_ValueError := PySem.W.mg_none_of X G z_ValueError,
    z_sorted := PySem.W.mg_none_of X G z_sorted,
    z_range := PySem.W.mg_none_of X G z_range,
    z_list := PySem.W.mg_none_of X G z_list,
    z_isinstance := PySem.W.mg_none_of X G z_isinstance,
    z_int := PySem.W.mg_none_of X G z_int,
    z_len := PySem.W.mg_none_of X G z_len,
    z_bool := PySem.W.mg_none_of X G z_bool,
    z_min := PySem.W.mg_none_of X G z_min,
    z_tuple := PySem.W.mg_none_of X G z_tuple,
    z_max := PySem.W.mg_none_of X G z_max,
    z_abs := PySem.W.mg_none_of X G z_abs }
  exact ⟨T.fd_law, fun s v => .of_eq rfl, fun base _ _ => ok_law T⟩
end Gh
open PySem PySem.W PyProof.Rows
set_option maxRecDepth 100000 in
set_option maxHeartbeats 0 in
theorem PySem.Challenge.cw_gaphand_k05_three_gaps_holds : PySem.Challenge.rw_gaphand_k05_three_gaps.Holds := by
  w_on; o_law; k_head; (case hw => w_witness2)
  k_fill
  refine L2.walk_ofB (l := PySem.Challenge.rw_gaphand_k05_three_gaps) (n := 63) (k := 6) (x := "_law_script") (CX := fun _ => L2.CX0) (sp := fun w => Gh.sp_law _) rfl (by decide) rfl ⟨rfl, by decide, by decide⟩ (fun w h Y => PySem.W.kIn_of Y) ?F (fun _ _ a ns hl hb _ hS => ⟨a, ns, rfl, hS, hl, hb, fun _ => rfl⟩) (fun _ _ _ _ _ h => h)
  case F =>
    intro w mg fa h KX G hmg
    refine' Gh.all_mk KX G hmg ?a_HandError ?a_NoWheel ?x_NoWheel ?k_NoWheel ?eb_NoWheel ?et_NoWheel ?a_NoBeats ?x_NoBeats ?k_NoBeats ?eb_NoBeats ?et_NoBeats ?u_n ?u_t ?hd_HandError ?et_HandError ?hd_NoWheel ?hd_NoBeats ?hg_NoWheel ?hk_NoWheel ?ha_NoWheel ?hm_NoWheel ?sv_NoWheel ?s_NoWheel_HandError ?s_NoWheel_NoWheel ?s_NoWheel_NoBeats ?hg_NoBeats ?hk_NoBeats ?ha_NoBeats ?hm_NoBeats ?sv_NoBeats ?s_NoBeats_HandError ?s_NoBeats_NoWheel ?s_NoBeats_NoBeats ?a_Wheel ?w_pg ?w_hd ?w_po ?w_sa ?w_mk ?w_kc ?w_ha ?w_hm ?w_si ?w_sb ?n_size ?n_step ?n_start ?n_lap ?a_wall ?l_wall ?c_wall ?k_wall ?a_is_whole ?l_is_whole ?c_is_whole ?k_is_whole ?a_common ?l_common ?c_common ?k_common ?a_Wheel_init ?l_Wheel_init ?c_Wheel_init ?k_Wheel_init ?i_Wheel_init ?t_Wheel_init ?a_Wheel_reached ?l_Wheel_reached ?c_Wheel_reached ?k_Wheel_reached ?i_Wheel_reached ?a_Wheel_place ?l_Wheel_place ?c_Wheel_place ?k_Wheel_place ?i_Wheel_place ?a_Wheel_turns ?l_Wheel_turns ?c_Wheel_turns ?k_Wheel_turns ?i_Wheel_turns ?a_need_first ?l_need_first ?c_need_first ?k_need_first ?a_around ?l_around ?c_around ?k_around ?a_gaps ?l_gaps ?c_gaps ?k_gaps ?a_law_cell_at ?l_law_cell_at ?c_law_cell_at ?k_law_cell_at ?a_law_whole ?l_law_whole ?c_law_whole ?k_law_whole ?a_law_divisor ?l_law_divisor ?c_law_divisor ?k_law_divisor ?a_law_signed ?l_law_signed ?c_law_signed ?k_law_signed ?a_law_drawn ?l_law_drawn ?c_law_drawn ?k_law_drawn ?a_law_shown ?l_law_shown ?c_law_shown ?k_law_shown ?a_law_good ?l_law_good ?c_law_good ?k_law_good ?a_law_told ?l_law_told ?c_law_told ?k_law_told ?a_law_counted ?l_law_counted ?c_law_counted ?k_law_counted ?a_law_stands ?l_law_stands ?c_law_stands ?k_law_stands ?a_law_manies ?l_law_manies ?c_law_manies ?k_law_manies ?a_law_refused ?l_law_refused ?c_law_refused ?k_law_refused ?a_law ?l_law ?c_law ?k_law ?z_ValueError ?z_sorted ?z_range ?z_list ?z_isinstance ?z_int ?z_len ?z_bool ?z_min ?z_tuple ?z_max ?z_abs
    (case a_HandError => k_is)
    (case a_NoWheel => k_is)
    (case x_NoWheel => k_exc)
    (case k_NoWheel => k_is)
    (case eb_NoWheel => k_is)
    (case et_NoWheel => k_is)
    (case a_NoBeats => k_is)
    (case x_NoBeats => k_exc)
    (case k_NoBeats => k_is)
    (case eb_NoBeats => k_is)
    (case et_NoBeats => k_is)
    (case u_n => k_is)
    (case u_t => k_is)
    (case hd_HandError => k_is)
    (case et_HandError => k_is)
    (case hd_NoWheel => k_is)
    (case hd_NoBeats => k_is)
    (case hg_NoWheel => k_is)
    (case hk_NoWheel => k_is)
    (case ha_NoWheel => k_is)
    (case hm_NoWheel => k_is)
    (case sv_NoWheel => k_is)
    (case s_NoWheel_HandError => k_is)
    (case s_NoWheel_NoWheel => k_is)
    (case s_NoWheel_NoBeats => k_is)
    (case hg_NoBeats => k_is)
    (case hk_NoBeats => k_is)
    (case ha_NoBeats => k_is)
    (case hm_NoBeats => k_is)
    (case sv_NoBeats => k_is)
    (case s_NoBeats_HandError => k_is)
    (case s_NoBeats_NoWheel => k_is)
    (case s_NoBeats_NoBeats => k_is)
    (case a_Wheel => k_is)
    (case w_pg => k_is)
    (case w_hd => k_is)
    (case w_po => k_is)
    (case w_sa => k_is)
    (case w_mk => k_is)
    (case w_kc => k_is)
    (case w_ha => k_is)
    (case w_hm => k_is)
    (case w_si => k_is)
    (case w_sb => k_is)
    (case n_size => k_is)
    (case n_step => k_is)
    (case n_start => k_is)
    (case n_lap => k_is)
    (case a_wall => k_is)
    (case l_wall => k_is)
    (case c_wall => k_is)
    (case k_wall => k_is)
    (case a_is_whole => k_is)
    (case l_is_whole => k_is)
    (case c_is_whole => k_is)
    (case k_is_whole => k_is)
    (case a_common => k_is)
    (case l_common => k_is)
    (case c_common => k_is)
    (case k_common => k_is)
    (case a_Wheel_init => k_is)
    (case l_Wheel_init => k_is)
    (case c_Wheel_init => k_is)
    (case k_Wheel_init => k_is)
    (case i_Wheel_init => k_is)
    (case t_Wheel_init => k_is)
    (case a_Wheel_reached => k_is)
    (case l_Wheel_reached => k_is)
    (case c_Wheel_reached => k_is)
    (case k_Wheel_reached => k_is)
    (case i_Wheel_reached => k_is)
    (case a_Wheel_place => k_is)
    (case l_Wheel_place => k_is)
    (case c_Wheel_place => k_is)
    (case k_Wheel_place => k_is)
    (case i_Wheel_place => k_is)
    (case a_Wheel_turns => k_is)
    (case l_Wheel_turns => k_is)
    (case c_Wheel_turns => k_is)
    (case k_Wheel_turns => k_is)
    (case i_Wheel_turns => k_is)
    (case a_need_first => k_is)
    (case l_need_first => k_is)
    (case c_need_first => k_is)
    (case k_need_first => k_is)
    (case a_around => k_is)
    (case l_around => k_is)
    (case c_around => k_is)
    (case k_around => k_is)
    (case a_gaps => k_is)
    (case l_gaps => k_is)
    (case c_gaps => k_is)
    (case k_gaps => k_is)
    (case a_law_cell_at => k_is)
    (case l_law_cell_at => k_is)
    (case c_law_cell_at => k_is)
    (case k_law_cell_at => k_is)
    (case a_law_whole => k_is)
    (case l_law_whole => k_is)
    (case c_law_whole => k_is)
    (case k_law_whole => k_is)
    (case a_law_divisor => k_is)
    (case l_law_divisor => k_is)
    (case c_law_divisor => k_is)
    (case k_law_divisor => k_is)
    (case a_law_signed => k_is)
    (case l_law_signed => k_is)
    (case c_law_signed => k_is)
    (case k_law_signed => k_is)
    (case a_law_drawn => k_is)
    (case l_law_drawn => k_is)
    (case c_law_drawn => k_is)
    (case k_law_drawn => k_is)
    (case a_law_shown => k_is)
    (case l_law_shown => k_is)
    (case c_law_shown => k_is)
    (case k_law_shown => k_is)
    (case a_law_good => k_is)
    (case l_law_good => k_is)
    (case c_law_good => k_is)
    (case k_law_good => k_is)
    (case a_law_told => k_is)
    (case l_law_told => k_is)
    (case c_law_told => k_is)
    (case k_law_told => k_is)
    (case a_law_counted => k_is)
    (case l_law_counted => k_is)
    (case c_law_counted => k_is)
    (case k_law_counted => k_is)
    (case a_law_stands => k_is)
    (case l_law_stands => k_is)
    (case c_law_stands => k_is)
    (case k_law_stands => k_is)
    (case a_law_manies => k_is)
    (case l_law_manies => k_is)
    (case c_law_manies => k_is)
    (case k_law_manies => k_is)
    (case a_law_refused => k_is)
    (case l_law_refused => k_is)
    (case c_law_refused => k_is)
    (case k_law_refused => k_is)
    (case a_law => k_is)
    (case l_law => k_is)
    (case c_law => k_is)
    (case k_law => k_is)
    (case z_ValueError => k_is)
    (case z_sorted => k_is)
    (case z_range => k_is)
    (case z_list => k_is)
    (case z_isinstance => k_is)
    (case z_int => k_is)
    (case z_len => k_is)
    (case z_bool => k_is)
    (case z_min => k_is)
    (case z_tuple => k_is)
    (case z_max => k_is)
    (case z_abs => k_is)
