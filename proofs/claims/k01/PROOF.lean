import PyProof.Rows.All
import Wide.All
import OpenK.AllK
import Wide.FinOn
import HandS.ForMost
import HandS.ForExc
import HandS.Wide
import HandS.WideBits
import HandS.IsInst
import HandS.Steps
import HandS.Defaults
import HandS.MakeKw
import HandS.EndBits
import HandS.ExcIs
import HandS.Evl
import Flt.Len
import PySem.Challenge.RW_gaphand_k01_place_and_turns
set_option Elab.async false
set_option linter.all false
set_option maxRecDepth 100000
set_option maxHeartbeats 4000000
namespace Gh
/-! ## gcd by Euclid's loop -/
theorem gcd_step {a b : Int} (ha : 0 ≤ a) (hb : 0 < b) : Int.gcd b (a % b) = Int.gcd a b := by
  have e : (a % b).natAbs = a.natAbs % b.natAbs := by
    have h1 : a = (a.natAbs : Int) := by omega
    have h2 : b = (b.natAbs : Int) := by omega
    rw [h1, h2, ← Int.natCast_emod]
    rfl
  show Nat.gcd b.natAbs (a % b).natAbs = Nat.gcd a.natAbs b.natAbs
  rw [e, Nat.gcd_comm a.natAbs, Nat.gcd_rec b.natAbs a.natAbs, Nat.gcd_comm]

/-! ## the slanted sum -/
def S : Nat → Int → Int → Int → Int
  | 0, _, _, _ => 0
  | n + 1, step, start, size => S n step start size + (start + (n : Int) * step) / size
theorem S_add (n : Nat) (a b m : Int) : ∀ k : Nat, S (n + k) a b m = S n a b m + S k a (b + (n : Int) * a) m
  | 0 => by simp [S]
  | k + 1 => by
    have ih := S_add n a b m k
    show S (n + k) a b m + (b + ((n + k : Nat) : Int) * a) / m = S n a b m + (S k a (b + (n : Int) * a) m + (b + (n : Int) * a + (k : Int) * a) / m)
    rw [ih, show b + ((n + k : Nat) : Int) * a = b + (n : Int) * a + (k : Int) * a by rw [Int.natCast_add]; grind]
    omega
theorem S_front (k : Nat) (a b m : Int) : S (k + 1) a b m = b / m + S k a (b + a) m := by
  have h := S_add 1 a b m k
  rw [Nat.add_comm 1 k] at h
  rw [h]
  simp [S]
theorem S_start (a b m : Int) (hm : 0 < m) : ∀ n : Nat, S n a b m = S n a (b % m) m + b / m * (n : Int)
  | 0 => by simp [S]
  | n + 1 => by
    have ih := S_start a b m hm n
    show S n a b m + (b + (n : Int) * a) / m = S n a (b % m) m + (b % m + (n : Int) * a) / m + b / m * ((n + 1 : Nat) : Int)
    have e : b + (n : Int) * a = b % m + (n : Int) * a + b / m * m := by
      have := Int.emod_add_mul_ediv b m
      grind
    rw [ih, e, Int.add_mul_ediv_right _ _ (by omega)]
    rw [show ((n + 1 : Nat) : Int) = (n : Int) + 1 from rfl]
    grind
theorem S_shift (c b a : Int) (ha : 0 < a) : ∀ k : Nat, S k c (b + a) a = S k c b a + (k : Int)
  | 0 => by simp [S]
  | k + 1 => by
    have ih := S_shift c b a ha k
    show S k c (b + a) a + (b + a + (k : Int) * c) / a = S k c b a + (b + (k : Int) * c) / a + ((k + 1 : Nat) : Int)
    rw [ih, show b + a + (k : Int) * c = b + (k : Int) * c + 1 * a by grind, Int.add_mul_ediv_right _ _ (by omega)]
    omega
/-- 0 + 1 + .. + (n - 1), as the program has it -/
theorem tri_succ (n : Int) : (n + 1) * ((n + 1) - 1) / 2 = n * (n - 1) / 2 + n := by
  have e : (n + 1) * ((n + 1) - 1) = n * (n - 1) + n * 2 := by grind
  rw [e, Int.add_mul_ediv_right _ _ (by omega)]
theorem S_step (a b m : Int) (hm : 0 < m) : ∀ n : Nat, S n a b m = S n (a % m) b m + a / m * ((n : Int) * ((n : Int) - 1) / 2)
  | 0 => by simp [S]
  | n + 1 => by
    have ih := S_step a b m hm n
    show S n a b m + (b + (n : Int) * a) / m = S n (a % m) b m + (b + (n : Int) * (a % m)) / m + a / m * (((n : Int) + 1) * (((n : Int) + 1) - 1) / 2)
    have e : b + (n : Int) * a = b + (n : Int) * (a % m) + (n : Int) * (a / m) * m := by
      have := Int.emod_add_mul_ediv a m
      grind
    rw [ih, e, Int.add_mul_ediv_right _ _ (by omega), tri_succ]
    grind
theorem S_zero (b m : Int) (h0 : 0 ≤ b) (h1 : b < m) : ∀ n : Nat, S n 0 b m = 0
  | 0 => rfl
  | n + 1 => by
    show S n 0 b m + (b + (n : Int) * 0) / m = 0
    rw [S_zero b m h0 h1 n, Int.mul_zero, Int.add_zero, Int.ediv_eq_zero_of_lt h0 h1]
    rfl
/-- the heart: counted the other way round -/
theorem S_flip (a b m : Int) (ha : 0 < a) (ham : a < m) (hb : 0 ≤ b) (hbm : b < m) : ∀ n : Nat, S n a b m = S ((b + (n : Int) * a) / m).toNat m ((b + (n : Int) * a) % m) a
  | 0 => by
    have e : (b + ((0 : Nat) : Int) * a) / m = 0 := by
      rw [show b + ((0 : Nat) : Int) * a = b by simp]
      exact Int.ediv_eq_zero_of_lt hb hbm
    rw [e]
    rfl
  | n + 1 => by
    have ih := S_flip a b m ha ham hb hbm n
    show S n a b m + (b + (n : Int) * a) / m = _
    rw [show b + ((n + 1 : Nat) : Int) * a = b + (n : Int) * a + a by rw [show ((n + 1 : Nat) : Int) = (n : Int) + 1 from rfl]; grind]
    have hy : 0 ≤ b + (n : Int) * a := Int.add_nonneg hb (Int.mul_nonneg (Int.natCast_nonneg n) (by omega))
    rw [ih]
    generalize b + (n : Int) * a = y at hy
    have hm : 0 < m := by omega
    have q0 : 0 ≤ y / m := Int.ediv_nonneg hy (by omega)
    have r0 : 0 ≤ y % m := Int.emod_nonneg y (by omega)
    have r1 : y % m < m := Int.emod_lt_of_pos y hm
    have ey := Int.emod_add_mul_ediv y m
    by_cases hc : y % m + a < m
    · have e1 : (y + a) / m = y / m := by
        rw [show y + a = (y % m + a) + (y / m) * m by grind, Int.add_mul_ediv_right _ _ (by omega), Int.ediv_eq_zero_of_lt (by omega) hc]
        omega
      have e2 : (y + a) % m = y % m + a := by
        rw [show y + a = (y % m + a) + m * (y / m) by omega, Int.add_mul_emod_self_left, Int.emod_eq_of_lt (by omega) hc]
      rw [e1, e2, S_shift _ _ _ ha]
      omega
    · have e1 : (y + a) / m = y / m + 1 := by
        rw [show y + a = (y % m + a - m) + (y / m + 1) * m by grind, Int.add_mul_ediv_right _ _ (by omega), Int.ediv_eq_zero_of_lt (by omega) (by omega)]
        omega
      have e2 : (y + a) % m = y % m + a - m := by
        rw [show y + a = (y % m + a - m) + m * (y / m + 1) by grind, Int.add_mul_emod_self_left, Int.emod_eq_of_lt (by omega) (by omega)]
      have e3 : (y % m + a - m) / a = 0 := Int.ediv_eq_zero_of_lt (by omega) (by omega)
      rw [e1, e2, show (y / m + 1).toNat = (y / m).toNat + 1 by omega, S_front, e3,
        show y % m + a - m + m = y % m + a by omega, S_shift _ _ _ ha]
      omega
/-- one turn of the program's loop -/
theorem S_turn {n a b m : Int} (hn : 0 < n) (hm : 0 < m) :
    S n.toNat a b m = a / m * (n * (n - 1) / 2) + b / m * n + S ((b % m + n * (a % m)) / m).toNat m ((b % m + n * (a % m)) % m) (a % m) := by
  have en : ((n.toNat : Nat) : Int) = n := by omega
  rw [S_step a b m hm, S_start (a % m) b m hm, en]
  have r0 : 0 ≤ b % m := Int.emod_nonneg b (by omega)
  have r1 : b % m < m := Int.emod_lt_of_pos b hm
  have s0 : 0 ≤ a % m := Int.emod_nonneg a (by omega)
  have s1 : a % m < m := Int.emod_lt_of_pos a hm
  by_cases ha : a % m = 0
  · rw [ha, S_zero _ _ r0 r1, Int.mul_zero, Int.add_zero, Int.ediv_eq_zero_of_lt r0 r1]
    simp [S]
    omega
  · rw [S_flip (a % m) (b % m) m (by omega) s1 r0 r1, en]
    omega
theorem S_succ (n : Nat) (a b m : Int) : S (n + 1) a b m = S n a b m + (b + (n : Int) * a) / m := rfl
/-- the new many is no greater, the new size smaller -/
theorem turn_many {n a b m : Int} (hn : 0 < n) (hm : 0 < m) : 0 ≤ (b % m + n * (a % m)) / m ∧ (b % m + n * (a % m)) / m ≤ n ∧ (a % m = 0 → (b % m + n * (a % m)) / m = 0) := by
  have r0 : 0 ≤ b % m := Int.emod_nonneg b (by omega)
  have r1 : b % m < m := Int.emod_lt_of_pos b hm
  have s0 : 0 ≤ a % m := Int.emod_nonneg a (by omega)
  have s1 : a % m < m := Int.emod_lt_of_pos a hm
  refine ⟨Int.ediv_nonneg (Int.add_nonneg r0 (Int.mul_nonneg (by omega) s0)) (by omega), ?_, fun h => ?_⟩
  · have h1 : n * (a % m) ≤ n * (m - 1) := Int.mul_le_mul_of_nonneg_left (by omega) (by omega)
    have h2 : b % m + n * (a % m) < (n + 1) * m := by grind
    have := Int.ediv_lt_of_lt_mul hm h2
    omega
  · rw [h, Int.mul_zero, Int.add_zero, Int.ediv_eq_zero_of_lt r0 r1]
end Gh

namespace Gh
open PySem PySem.Spec PyProof.Rows L2
/-! ## great numbers -/
theorem lg_of {i : Int} (h : i.natAbs ≤ 10000000000000000000000000000000000000000000000000000000000000000000000000000000000000000000000000000000000000000000000000000000000000000000000000000000000000000000000000000000000000000000000000000000000000000000000000000000000000000000000000000000000000000000000000000000000000000000000000000000000000000000000000000000000000000000000000000000000000000000000000000000000000000000000000000000000000000) : i.natAbs.log2 < 4000000 :=
  Nat.lt_of_lt_of_le (PySem.Flt.log2_lt_of (k := 1400) (by decide) (Nat.lt_of_le_of_lt h (by decide +kernel))) (by decide)
def CMulB (i j : Int) : Prop := i.natAbs.log2 < 4000000 ∧ j.natAbs.log2 < 4000000
theorem CMulB.ok {i j : Int} (h : CMulB i j) : IntMulOk i j := by
  have b : ∀ x : Int, Builtin.Int.intBits x ≤ x.natAbs.log2 + 1 := fun x => by
    unfold Builtin.Int.intBits
    split <;> omega
  have h1 := b i
  have h2 := b j
  have h3 := h.1
  have h4 := h.2
  have e : bitsLine = 134217728 := by decide
  unfold IntMulOk
  intro z
  rw [Bool.and_eq_true] at z
  have z2 := z.2
  unfold Builtin.Int.intTooBig at z2
  have z3 := of_decide_eq_true z2
  rw [e] at z3
  omega
theorem op_mulB {X : Cx} : OpR X (binaryOp .Mult) (rI CMulB fun i j => .int (i * j)) := opI fun _ _ _ _ _ _ _ hc q => mul_int q hc.ok
theorem mulB {i j : Int} (h1 : i.natAbs ≤ 10000000000000000000000000000000000000000000000000000000000000000000000000000000000000000000000000000000000000000000000000000000000000000000000000000000000000000000000000000000000000000000000000000000000000000000000000000000000000000000000000000000000000000000000000000000000000000000000000000000000000000000000000000000000000000000000000000000000000000000000000000000000000000000000000000000000000000) (h2 : j.natAbs ≤ 10000000000000000000000000000000000000000000000000000000000000000000000000000000000000000000000000000000000000000000000000000000000000000000000000000000000000000000000000000000000000000000000000000000000000000000000000000000000000000000000000000000000000000000000000000000000000000000000000000000000000000000000000000000000000000000000000000000000000000000000000000000000000000000000000000000000000000) : CMulB i j := ⟨lg_of h1, lg_of h2⟩
theorem divW {i j : Int} (h0 : 0 < j) (h1 : j ≤ 10000000000000000000000000000000000000000000000000000000000000000000000000000000000000000000000000000000000000000000000000000000000000000000000000000000000000000000000000000000000000000000000000000000000000000000000000000000000000000000000000000000000000000000000000000000000000000000000000000000000000000000000000000000000000000000000000000000000000000000000000000000000000000000000000000000000000000) : CDivW i j :=
  ⟨h0, Nat.lt_of_lt_of_le (PySem.Flt.log2_lt_of (k := 1400) (by decide) (Nat.lt_of_le_of_lt (show j.natAbs ≤ 10000000000000000000000000000000000000000000000000000000000000000000000000000000000000000000000000000000000000000000000000000000000000000000000000000000000000000000000000000000000000000000000000000000000000000000000000000000000000000000000000000000000000000000000000000000000000000000000000000000000000000000000000000000000000000000000000000000000000000000000000000000000000000000000000000000000000000 by omega) (by decide +kernel))) (by decide)⟩
/-! ## constants reckoned -/
section
variable {X : Cx} {a b : Expr} {pos : Pos}
theorem pe_as {e : Expr} {t t' : TE} (h : PE X e t) (w : ∀ σ H Q, t' σ H Q → t σ H Q) : PE X e t' := ⟨fun pins s σ H Q I q => h.run pins s σ H Q I (w σ H Q q)⟩
theorem pe_lneg {i : Int} (ha : PE X a (tC (.int i))) : PE X (.UnaryOp .USub a pos) (tC (.int (-i))) := pe_as (pe_un un_neg ha) fun _ _ _ q => ⟨_, rfl, q⟩
theorem pe_lpow {i j v : Int} (ha : PE X a (tC (.int i))) (hb : PE X b (tC (.int j))) (c : 0 ≤ j ∧ j ≤ 1000000 ∧ i.natAbs < 2 ^ 64) (e : i ^ j.toNat = v) : PE X (.BinOp a .Pow b pos) (tC (.int v)) :=
  pe_as (pe_op op_pow ha hb) fun _ _ _ q => ⟨_, _, rfl, rfl, c, by subst e; exact q⟩
theorem pe_ladd {i j v : Int} (ha : PE X a (tC (.int i))) (hb : PE X b (tC (.int j))) (e : i + j = v) : PE X (.BinOp a .Add b pos) (tC (.int v)) :=
  pe_as (pe_op op_add ha hb) fun _ _ _ q => ⟨_, _, rfl, rfl, by subst e; exact q⟩
theorem pe_lsub {i j v : Int} (ha : PE X a (tC (.int i))) (hb : PE X b (tC (.int j))) (e : i - j = v) : PE X (.BinOp a .Sub b pos) (tC (.int v)) :=
  pe_as (pe_op op_sub ha hb) fun _ _ _ q => ⟨_, _, rfl, rfl, by subst e; exact q⟩
theorem pe_lmul {i j v : Int} (ha : PE X a (tC (.int i))) (hb : PE X b (tC (.int j))) (c : i.natAbs ≤ 1000 ∧ j.natAbs ≤ 10000000000000000000000000000000000000000000000000000000000000000000000000000000000000000000000000000000000000000000000000000000000000000000000000000000000000000000000000000000000000000000000000000000000000000000000000000000000000000000000000000000000000000000000000000000000000000000000000000000000000000000000000000000000000000000000000000000000000000000000000000000000000000000000000000000000000000) (e : i * j = v) : PE X (.BinOp a .Mult b pos) (tC (.int v)) :=
  pe_as (pe_op op_mulB ha hb) fun _ _ _ q => ⟨_, _, rfl, rfl, mulB (Nat.le_trans c.1 (by decide +kernel)) c.2, by subst e; exact q⟩
end
/-! ## readings, a step each -/
section
variable {K : PySem.W.Frag} {nx : L2.St → Hp → Prop} {rt : VK} {bk ct : L2.St → Hp → Prop} {σ : L2.St} {H : Hp} {Q : VK} {QB : Bool → Hp → Prop} {QA : List V → Hp → Prop} {t u : TS} {ta tb te : TE} {tt tu : TT} {tr : TA} {g : TG} {i j : Int} {n : Nat} {v x y : V} {r : R2}
theorem g_seq (h : t ⟨u ⟨nx, rt, bk, ct⟩, rt, bk, ct⟩ σ H) : tSeq t u ⟨nx, rt, bk, ct⟩ σ H := h
theorem g_next (h : nx σ H) : tNext ⟨nx, rt, bk, ct⟩ σ H := h
theorem g_asg (h : te σ H fun x H1 => g x σ H1 nx) : tAsg te g ⟨nx, rt, bk, ct⟩ σ H := h
theorem g_name {R : L2.St → Hp → Prop} (h : R (σ.set n (some v)) H) : gName n v σ H R := h
theorem g_var (e : σ[n]? = some (some v)) (h : Q v H) : tVar n σ H Q := ⟨v, e, h⟩
theorem g_c (h : Q v H) : tC v σ H Q := h
theorem g_op (h : ta σ H fun x H1 => tb σ H1 fun y H2 => r x y H2 Q) : tOp r ta tb σ H Q := h
theorem g_un {ru : V → Hp → VK → Prop} (h : ta σ H fun x H1 => ru x H1 Q) : tUn ru ta σ H Q := h
theorem g_rU {f : Int → V} (h : Q (f i) H) : rU f (.int i) H Q := ⟨_, rfl, h⟩
theorem g_rI0 {f : Int → Int → V} (h : Q (f i j) H) : rI0 f (.int i) (.int j) H Q := ⟨_, _, rfl, rfl, h⟩
theorem g_mul (c : CMulB i j) (h : Q (.int (i * j)) H) : rI CMulB (fun i j => .int (i * j)) (.int i) (.int j) H Q := ⟨_, _, rfl, rfl, c, h⟩
theorem g_div (c : CDivW i j) (h : Q (.int (i / j)) H) : rI CDivW (fun i j => .int (i / j)) (.int i) (.int j) H Q := ⟨_, _, rfl, rfl, c, h⟩
theorem g_mod (c : 0 < j) (h : Q (.int (i % j)) H) : rI (fun _ j => 0 < j) (fun i j => .int (i % j)) (.int i) (.int j) H Q := ⟨_, _, rfl, rfl, c, h⟩
theorem dec_int' : decide (V.int i = V.int j) = decide (i = j) := by
  by_cases h : i = j
  · subst h; simp
  · have h2 : ¬ V.int i = V.int j := fun z => h (V.int.inj z)
    rw [decide_eq_false h, decide_eq_false h2]
theorem g_eqI (h : Q (.bl (decide (i = j))) H) : rEq (.int i) (.int j) H Q := ⟨rfl, by rw [dec_int']; exact h⟩
theorem g_neI (h : Q (.bl (!decide (i = j))) H) : rNe (.int i) (.int j) H Q := ⟨rfl, by rw [dec_int']; exact h⟩
theorem g_ret (h : te σ H rt) : tRet te ⟨nx, rt, bk, ct⟩ σ H := h
theorem g_retN (h : rt .non H) : tRetN ⟨nx, rt, bk, ct⟩ σ H := h
theorem g_drop (h : te σ H fun _ H1 => nx σ H1) : tDrop te ⟨nx, rt, bk, ct⟩ σ H := h
theorem g_ifS (h : tt σ H fun b H1 => if b = true then t ⟨nx, rt, bk, ct⟩ σ H1 else u ⟨nx, rt, bk, ct⟩ σ H1) : tIfS tt t u ⟨nx, rt, bk, ct⟩ σ H := h
theorem g_B (h : te σ H fun x H1 => ∃ c, x = .bl c ∧ QB c H1) : tB te σ H QB := h
theorem g_test (h : te σ H fun x H1 => ∃ c, x = .bl c ∧ QB c H1) : tTest te σ H QB := h
theorem g_bl {b : Bool} {P : Bool → Prop} (h : P b) : ∃ c, V.bl b = V.bl c ∧ P c := ⟨_, rfl, h⟩
theorem g_and (h : tt σ H fun c H1 => if c = true then tu σ H1 QB else QB false H1) : tAnd tt tu σ H QB := h
theorem g_or (h : tt σ H fun c H1 => if c = true then QB true H1 else tu σ H1 QB) : tOr tt tu σ H QB := h
theorem g_not (h : tt σ H fun c H1 => QB (!c) H1) : tNot tt σ H QB := h
theorem g_andV (h : ta σ H fun x H1 => ∃ c, x = .bl c ∧ if c = true then tb σ H1 Q else Q (.bl false) H1) : tAndV ta tb σ H Q := h
theorem g_orV (h : ta σ H fun x H1 => ∃ c, x = .bl c ∧ if c = true then Q (.bl true) H1 else tb σ H1 Q) : tOrV ta tb σ H Q := h
theorem g_notV (h : ta σ H fun x H1 => ∃ c, x = .bl c ∧ Q (.bl (!c)) H1) : tNotV ta σ H Q := h
theorem g_cb {rc : List V → Hp → VK → Prop} (h : tr σ H fun vs H1 => rc vs H1 Q) : tCB rc tr σ H Q := h
theorem g_cons (h : te σ H fun x H1 => tr σ H1 fun xs H2 => QA (x :: xs) H2) : tCons te tr σ H QA := h
theorem g_nil (h : QA [] H) : tNil σ H QA := h
theorem g_call {sp : Sp} {dvs : List V} {E : XK} (h : tr σ H fun vs H1 => sp (vs ++ dvs) H1 Q E) : tCall sp dvs E tr σ H Q := h
theorem g_dec {p A B : Prop} [Decidable p] (h1 : p → A) (h2 : ¬ p → B) : if decide p = true then A else B := ite2 (fun e => h1 (of_decide_eq_true e)) (fun e => h2 fun z => e (decide_eq_true z))
theorem g_ndec {p A B : Prop} [Decidable p] (h1 : ¬ p → A) (h2 : p → B) : if (!decide p) = true then A else B := ite2 (fun e => h1 (of_decide_eq_false (by simpa using e))) (fun e => h2 (by simpa using e))
theorem g_decT {p A B : Prop} [Decidable p] (hp : p) (h : A) : if decide p = true then A else B := by rw [decide_eq_true hp]; exact h
theorem g_decF {p A B : Prop} [Decidable p] (hp : ¬ p) (h : B) : if decide p = true then A else B := by rw [decide_eq_false hp]; exact h
theorem g_nT {A B : Prop} (h : B) : if (!true) = true then A else B := h
theorem g_nF {A B : Prop} (h : A) : if (!false) = true then A else B := h
theorem g_par {a b : Nat} (h : tr σ H fun vs H1 => ∃ v w, vs = [v, w] ∧ nx ((σ.set a (some v)).set b (some w)) H1) : tPar a b tr ⟨nx, rt, bk, ct⟩ σ H := h
theorem g_two {v w : V} {P : V → V → Prop} (h : P v w) : ∃ v' w', [v, w] = [v', w'] ∧ P v' w' := ⟨_, _, rfl, h⟩
/-- a while by what holds between two turns, with a number that falls -/
theorem g_while (W : Nat → L2.St → Hp → Prop) (m0 : Nat) (h0 : W m0 σ H)
    (hs : ∀ m σ' H', W m σ' H' → tt σ' H' fun b H1 => if b = true then (∃ N : L2.St → Hp → Prop, (∀ σ2 H2, N σ2 H2 → ∃ m', m' < m ∧ W m' σ2 H2) ∧ t ⟨N, rt, nx, N⟩ σ' H1) else nx σ' H1) : tWhile tt t ⟨nx, rt, bk, ct⟩ σ H := ⟨W, ⟨m0, h0⟩, hs⟩
theorem g_body {W : Nat → L2.St → Hp → Prop} {m : Nat} (h : t ⟨fun σ2 H2 => ∃ m', m' < m ∧ W m' σ2 H2, rt, bk, fun σ2 H2 => ∃ m', m' < m ∧ W m' σ2 H2⟩ σ H) :
    ∃ N : L2.St → Hp → Prop, (∀ σ2 H2, N σ2 H2 → ∃ m', m' < m ∧ W m' σ2 H2) ∧ t ⟨N, rt, bk, N⟩ σ H := ⟨_, fun _ _ z => z, h⟩
theorem g_for {wi : TI} (h : wi σ H fun J H1 => ∃ W : Nat → Nat → L2.St → Hp → Prop, (∃ m, W 0 m σ H1) ∧ ∀ i m σ H, W i m σ H →
  (J.stop i H ∧ nx σ H) ∨ (J.go i H ∧ ∃ N : L2.St → Hp → Prop, (∀ σ' H', N σ' H' → ∃ m', m' < m ∧ W (i + 1) m' σ' H') ∧ ∀ x H', J.yld i H x H' → g x σ H' fun σ2 H2 => t ⟨N, rt, nx, N⟩ σ2 H2)) : tFor wi g t ⟨nx, rt, bk, ct⟩ σ H := h
theorem g_iL {R : It → Hp → Prop} (h : te σ H fun x H1 => ∃ a, x = .ref a ∧ (∃ xs, SqL K H1 a xs) ∧ R (Itl K a) H1) : iList K te σ H R := h
theorem g_iT {R : It → Hp → Prop} (h : te σ H fun x H1 => ∃ a, x = .ref a ∧ (∃ xs, SqT K H1 a xs) ∧ R (Itt K a) H1) : iTup K te σ H R := h
theorem g_isi {ty : Value} {n : String} {b : Bool} (h1 : TyX K H v ty) (h2 : PySem.W.kitOne K ty (.type n) = some b) (h : Q (.bl b) H) : rIsi K [v, .ty n] H Q := ⟨v, .ty n, ty, _, b, rfl, .ty n, h1, h2, h⟩
theorem g_sfld {f : Str} (h : te σ H fun y H1 => ta σ H1 fun x H2 => ∃ a C dx fs, x = .ref a ∧ H2 a = some (.ins C dx fs) ∧ Cls K C ∧ NoAttr K C f ∧ fs.length < 1000 ∧ nx σ (upd H2 a (.ins C dx (putF f y fs)))) : sFld K ta te f ⟨nx, rt, bk, ct⟩ σ H := h
theorem g_meth {C : Addr} {m : Str} {sp : Sp} {dvs : List V} {E : XK} (h : ta σ H fun x H1 => ∃ a dx fs, x = .ref a ∧ H1 a = some (.ins C dx fs) ∧ fs.lookup m = none ∧ tr σ H1 fun vs H2 => sp (x :: (vs ++ dvs)) H2 Q E) : tMeth C m sp dvs E ta tr σ H Q := h
theorem g_make {C : Addr} {sp : Sp} {dvs : List V} {E : XK} (h : tr σ H fun vs H1 => ∀ x dx, H1 x = none → H1 dx = none → dx ≠ x → sp (.ref x :: (vs ++ dvs)) (upd (upd H1 dx (.own x)) x (.ins C dx [])) (fun v H2 => v = .non ∧ Q (.ref x) H2) E) : tMake C sp dvs E tr σ H Q := h
theorem g_sl {rs : V → Option Int → Option Int → Hp → VK → Prop} {tl th : TO} (h : te σ H fun x H1 => tl σ H1 fun l H2 => th σ H2 fun u H3 => rs x l u H3 Q) : tSl rs te tl th σ H Q := h
theorem g_part {QO : Option Int → Hp → Prop} (h : te σ H fun x H1 => ∃ i, x = .int i ∧ QO (some i) H1) : tPart te σ H QO := h
theorem g_nopart {QO : Option Int → Hp → Prop} (h : QO none H) : tNoPart σ H QO := h
theorem g_int {i : Int} {P : Int → Prop} (h : P i) : ∃ i', V.int i = V.int i' ∧ P i' := ⟨_, rfl, h⟩
theorem g_int1 {P : Int → Prop} (h : P i) : ∃ i', [V.int i] = [V.int i'] ∧ P i' := ⟨_, rfl, h⟩
theorem g_int2 {P : Int → Int → Prop} (h : P i j) : ∃ i' j', [V.int i, V.int j] = [V.int i', V.int j'] ∧ P i' j' := ⟨_, _, rfl, h⟩
theorem g_slL {a : Addr} {xs : List V} {lo hi : Option Int} (hx : SqL K H a xs) (h : ∀ p, H p = none → Q (.ref p) (upd H p (.lst (cutV xs lo hi)))) : rSlL K (.ref a) lo hi H Q := ⟨a, xs, rfl, hx, h⟩
theorem g_ixL {a : Addr} {xs : List V} (hx : SqL K H a xs) (e : atI xs i = some v) (h : Q v H) : rIxL K (.ref a) (.int i) H Q := ⟨a, xs, i, v, rfl, rfl, hx, e, h⟩
theorem g_ixT {a : Addr} {xs : List V} (hx : SqT K H a xs) (e : atI xs i = some v) (h : Q v H) : rIxT K (.ref a) (.int i) H Q := ⟨a, xs, i, v, rfl, rfl, hx, e, h⟩
theorem g_overL {a : Addr} {xs : List V} (hx : SqL K H a xs) (Pv : Nat → L2.St → Hp → Prop) (h0 : Pv 0 σ H) (hl : ∀ i σ' H', i ≤ xs.length → Pv i σ' H' → SqL K H' a xs)
    (hs : ∀ i x σ' H', xs[i]? = some x → Pv i σ' H' → g x σ' H' fun σ2 H2 => t ⟨Pv (i + 1), rt, nx, Pv (i + 1)⟩ σ2 H2) (hd : ∀ σ' H', Pv xs.length σ' H' → nx σ' H') :
    ∃ a', V.ref a = .ref a' ∧ (∃ xs, SqL K H a' xs) ∧ ∃ W : Nat → Nat → L2.St → Hp → Prop, (∃ m, W 0 m σ H) ∧ ∀ i m σ H, W i m σ H →
      ((Itl K a').stop i H ∧ nx σ H) ∨ ((Itl K a').go i H ∧ ∃ N : L2.St → Hp → Prop, (∀ σ' H', N σ' H' → ∃ m', m' < m ∧ W (i + 1) m' σ' H') ∧ ∀ x H', (Itl K a').yld i H x H' → g x σ H' fun σ2 H2 => t ⟨N, rt, nx, N⟩ σ2 H2) :=
  ⟨a, rfl, ⟨xs, hx⟩, for_list (D := ⟨nx, rt, fun _ _ => False, fun _ _ => False⟩) Pv h0 hl hs hd⟩
theorem g_overT {a : Addr} {xs : List V} (hx : SqT K H a xs) (Pv : Nat → L2.St → Hp → Prop) (h0 : Pv 0 σ H) (hl : ∀ i σ' H', i ≤ xs.length → Pv i σ' H' → SqT K H' a xs)
    (hs : ∀ i x σ' H', xs[i]? = some x → Pv i σ' H' → g x σ' H' fun σ2 H2 => t ⟨Pv (i + 1), rt, nx, Pv (i + 1)⟩ σ2 H2) (hd : ∀ σ' H', Pv xs.length σ' H' → nx σ' H') :
    ∃ a', V.ref a = .ref a' ∧ (∃ xs, SqT K H a' xs) ∧ ∃ W : Nat → Nat → L2.St → Hp → Prop, (∃ m, W 0 m σ H) ∧ ∀ i m σ H, W i m σ H →
      ((Itt K a').stop i H ∧ nx σ H) ∨ ((Itt K a').go i H ∧ ∃ N : L2.St → Hp → Prop, (∀ σ' H', N σ' H' → ∃ m', m' < m ∧ W (i + 1) m' σ' H') ∧ ∀ x H', (Itt K a').yld i H x H' → g x σ H' fun σ2 H2 => t ⟨N, rt, nx, N⟩ σ2 H2) :=
  ⟨a, rfl, ⟨xs, hx⟩, for_tup (D := ⟨nx, rt, fun _ _ => False, fun _ _ => False⟩) Pv h0 hl hs hd⟩
theorem g_cut {Mid : L2.St → Hp → Prop} (h : t ⟨Mid, rt, bk, ct⟩ σ H) (k : ∀ σ' H', Mid σ' H' → u ⟨nx, rt, bk, ct⟩ σ' H') : Evl.tCut t u ⟨nx, rt, bk, ct⟩ σ H := ⟨Mid, h, k⟩
theorem g_tup {tr : TA} (h : tr σ H fun xs H1 => xs.length ≤ sizeLine ∧ ∀ p, H1 p = none → Q (.ref p) (upd H1 p (.tup xs))) : tTup tr σ H Q := h
theorem g_lst {tr : TA} (h : tr σ H fun xs H1 => xs.length ≤ sizeLine ∧ ∀ p, H1 p = none → Q (.ref p) (upd H1 p (.lst xs))) : tLst tr σ H Q := h
theorem g_len {xs : List V} {P : Prop} (hl : xs.length ≤ 1000) (h : P) : xs.length ≤ sizeLine ∧ P := ⟨Nat.le_of_lt (small1000 hl), h⟩
theorem g_fldV {a C dx : Addr} {fs : List (Str × V)} {f : Str} (hv : σ[n]? = some (some (.ref a))) (h1 : H a = some (.ins C dx fs)) (h2 : Cls K C) (h3 : NoAttr K C f) (h4 : fs.lookup f = some v) (h : Q v H) : tFld K (tVar n) f σ H Q := ⟨.ref a, hv, a, C, dx, fs, v, rfl, h1, h2, h3, h4, h⟩
end
/-! ## what is a whole number -/
/-- b: whether v is an int and no bool -/
def Kind (K : PySem.W.Frag) (H : Hp) (v : V) (b : Bool) : Prop := ∃ t b1 b2, TyX K H v t ∧ PySem.W.kitOne K t (.type "int") = some b1 ∧ PySem.W.kitOne K t (.type "bool") = some b2 ∧ b = (b1 && !b2)
section
variable {K : PySem.W.Frag} {H : Hp}
theorem kind_int {i : Int} : Kind K H (.int i) true := ⟨_, true, false, .base (.int i), kit_ty (by decide +kernel), kit_ty (by decide +kernel), rfl⟩
theorem kind_bl {b : Bool} : Kind K H (.bl b) false := ⟨_, true, true, .base (.bl b), kit_ty (by decide +kernel), kit_ty (by decide +kernel), rfl⟩
theorem kind_non : Kind K H .non false := ⟨_, false, false, .base .non, kit_ty (by decide +kernel), kit_ty (by decide +kernel), rfl⟩
theorem kind_str {x : Str} : Kind K H (.str x) false := ⟨_, false, false, .base (.str x), kit_ty (by decide +kernel), kit_ty (by decide +kernel), rfl⟩
theorem kind_lst {p : Addr} {xs : List V} (h : H p = some (.lst xs)) : Kind K H (.ref p) false := ⟨_, false, false, .base (.lst h), kit_ty (by decide +kernel), kit_ty (by decide +kernel), rfl⟩
theorem kind_tup {p : Addr} {xs : List V} (h : H p = some (.tup xs)) : Kind K H (.ref p) false := ⟨_, false, false, .base (.tup h), kit_ty (by decide +kernel), kit_ty (by decide +kernel), rfl⟩
theorem kind_dK {p : Addr} {kvs : List (Key × V)} (h : H p = some (.dK kvs)) : Kind K H (.ref p) false := ⟨_, false, false, .base (.dK h), kit_ty (by decide +kernel), kit_ty (by decide +kernel), rfl⟩
end
/-! ## heaps, kinds -/
theorem same_upd {H : Hp} {p : Addr} {o : HO} (h : H p = none) : Same H (upd H p o) := fun b x e => by
  rw [upd_ne (ne_of_none e h)]
  exact e
theorem Rd.same {H H' : Hp} {a : Addr} {u : HO} (e : Same H H') (h : Rd H a u) : Rd H' a u := h.elim (fun z => .inl (e _ _ z)) fun ⟨o, z⟩ => .inr ⟨o, e _ _ z⟩
theorem Same.tup {K : PySem.W.Frag} {H H' : Hp} {a : Addr} {xs : List V} (e : Same H H') (h : SqT K H a xs) : SqT K H' a xs := h.elim (fun z => .inl (Rd.same e z)) .inr
theorem TyOf.same {K : PySem.W.Frag} {H H' : Hp} (e : Same H H') {v : V} {t : Value} (h : TyOf K H v t) : TyOf K H' v t := by
  cases h with
  | non => exact .non
  | bl x => exact .bl x
  | int i => exact .int i
  | str x => exact .str x
  | flt x => exact .flt x
  | lst z => exact .lst (e _ _ z)
  | frz z => exact .frz (e _ _ z)
  | tup z => exact .tup (e _ _ z)
  | dK z => exact .dK (e _ _ z)
  | dT z => exact .dT (e _ _ z)
  | ins z a b c d f => exact .ins (e _ _ z) a b c d f
theorem TyX.same {K : PySem.W.Frag} {H H' : Hp} (e : Same H H') {v : V} {t : Value} (h : TyX K H v t) : TyX K H' v t := by
  cases h with
  | base z => exact .base (TyOf.same e z)
  | byt b => exact .byt b
  | set z => exact .set (e _ _ z)
  | kList a b => exact .kList a b
  | kTuple a b => exact .kTuple a b
  | kDict a b => exact .kDict a b
  | fTuple z => exact .fTuple (e _ _ z)
  | fDict z => exact .fDict (e _ _ z)
theorem Kind.same {K : PySem.W.Frag} {H H' : Hp} (e : Same H H') {v : V} {b : Bool} (h : Kind K H v b) : Kind K H' v b := by
  obtain ⟨t, b1, b2, ty, r⟩ := h
  exact ⟨t, b1, b2, TyX.same e ty, r⟩
/-- what is no whole number from lo to hi -/
def Bad (K : PySem.W.Frag) (H : Hp) (v : V) (lo hi : Int) : Prop := Kind K H v false ∨ ∃ i, v = .int i ∧ ¬ (lo ≤ i ∧ i ≤ hi)
theorem Bad.same {K : PySem.W.Frag} {H H' : Hp} (e : Same H H') {v : V} {lo hi : Int} (h : Bad K H v lo hi) : Bad K H' v lo hi := h.elim (fun z => .inl (Kind.same e z)) .inr
/-! ## cells -/
def cellAt (ns : List Int) (k : Int) : Int := (ns[k.toNat]?).getD 0
def BitsOk (ns : List Int) : Prop := ∀ z ∈ ns, Builtin.Int.intBits z ≤ 1048576
theorem cell_log {ns : List Int} (h : BitsOk ns) (k : Int) : (cellAt ns k).natAbs.log2 ≤ 1048576 := by
  unfold cellAt
  cases e : ns[k.toNat]? with
  | none => exact Nat.zero_le _
  | some z =>
    have hz := h z (List.mem_of_getElem? e)
    show z.natAbs.log2 ≤ 1048576
    unfold Builtin.Int.intBits at hz
    by_cases c : z = 0
    · subst c
      exact Nat.zero_le _
    · rw [if_neg (by simpa using c)] at hz
      omega
theorem cell_mul {ns : List Int} (h : BitsOk ns) {k j : Int} (hj : j.natAbs ≤ 10000000000000000000000000000000000000000000000000000000000000000000000000000000000000000000000000000000000000000000000000000000000000000000000000000000000000000000000000000000000000000000000000000000000000000000000000000000000000000000000000000000000000000000000000000000000000000000000000000000000000000000000000000000000000000000000000000000000000000000000000000000000000000000000000000000000000000) : CMulB (cellAt ns k) j := ⟨Nat.lt_of_le_of_lt (cell_log h k) (by decide), lg_of hj⟩
theorem pick {xs : List Int} {i : Int} (h0 : 0 ≤ i) (h1 : i < xs.length) : ∃ m ∈ xs, atI (xs.map V.int) i = some (.int m) := by
  obtain ⟨k, rfl⟩ : ∃ k : Nat, i = (k : Int) := ⟨i.toNat, by omega⟩
  have hl : k < xs.length := by omega
  exact ⟨xs[k], List.getElem_mem hl, atI_nat (by rw [List.getElem?_map, List.getElem?_eq_getElem hl]; rfl)⟩
def cutN (ns : List Int) (lo hi : Option Int) : List Int := (ns.drop (HT.sIx ns.length 0 lo)).take (HT.sIx ns.length ns.length hi - HT.sIx ns.length 0 lo)
theorem cut_map (ns : List Int) (lo hi : Option Int) : cutV (ns.map V.int) lo hi = (cutN ns lo hi).map V.int := by
  unfold cutV cutN
  rw [List.length_map, List.map_take, List.map_drop]
theorem cut_len (ns : List Int) (lo hi : Option Int) : (cutN ns lo hi).length ≤ ns.length := by
  unfold cutN
  rw [List.length_take, List.length_drop]
  omega
theorem cut_sub {ns : List Int} {lo hi : Option Int} {z : Int} (h : z ∈ cutN ns lo hi) : z ∈ ns := List.mem_of_mem_drop (List.mem_of_mem_take h)
theorem map_at {α : Type} {f : α → V} {xs : List α} {i : Nat} {x : V} (h : (xs.map f)[i]? = some x) : ∃ z, xs[i]? = some z ∧ x = f z := by
  rw [List.getElem?_map] at h
  cases e : xs[i]? with
  | none =>
    rw [e] at h
    cases h
  | some z =>
    rw [e] at h
    exact ⟨z, rfl, (Option.some.inj h).symm⟩
/-! ## list comprehensions over ints -/
/-- what a comprehension asks of what it walks -/
def LcP (J : It) (g : TG) (tt : TT) (te : TE) (vs : List Nat) (σ : L2.St) (H1 : Hp) (Q : VK) : Prop := ∀ D, H1 D = none → ∃ W : Nat → Nat → Hp → Prop, (∃ m, W 0 m (upd H1 D (.lst []))) ∧ ∀ i m H, W i m H →
  (J.stop i H ∧ Q (.ref D) H) ∨ (J.go i H ∧ ∃ Nx : Hp → Prop, (∀ H', Nx H' → ∃ m', m' < m ∧ W (i + 1) m' H') ∧ ∀ x H', J.yld i H x H' → g x (wipe σ vs) H' fun σ2 H2 => wipe σ2 vs = wipe σ vs ∧ tt σ2 H2 fun b H3 =>
    if b = true then te σ2 H3 fun y H4 => ∃ acc, H4 D = some (.lst acc) ∧ acc.length < sizeLine ∧ Nx (upd H4 D (.lst (acc ++ [y]))) else Nx H3)
theorem g_lc {wi : TI} {g : TG} {tt : TT} {te : TE} {vs : List Nat} {σ : L2.St} {H : Hp} {Q : VK} (h : wi σ H fun J H1 => LcP J g tt te vs σ H1 Q) : tLc wi g tt te vs σ H Q := h
theorem take_succ' {α : Type} {l : List α} {i : Nat} {x : α} (h : l[i]? = some x) : l.take (i + 1) = l.take i ++ [x] := by
  rw [List.take_add_one, h]
  rfl
/-- [f(x) for x in a list of ints] -/
theorem g_compMap {K : PySem.W.Frag} {te : TE} {vs : List Nat} {σ : L2.St} {H : Hp} {Q : VK} {a : Addr} {j : Nat} {ns : List Int} (f : Int → Int) (hx : SqL K H a (ns.map V.int)) (hl : ns.length ≤ 1000) (hw : ∀ x, wipe ((wipe σ vs).set j (some x)) vs = wipe σ vs)
    (he : ∀ z ∈ ns, ∀ (H' : Hp) (Q' : VK), Same H H' → (∀ H4, Same H' H4 → Q' (.int (f z)) H4) → te ((wipe σ vs).set j (some (.int z))) H' Q')
    (h : ∀ D, H D = none → ∀ H', Same H H' → H' D = some (.lst ((ns.map f).map V.int)) → Q (.ref D) H') :
    ∃ a', V.ref a = .ref a' ∧ (∃ xs, SqL K H a' xs) ∧ LcP (Itl K a') (gName j) tYes te vs σ H Q := by
  refine ⟨a, rfl, ⟨_, hx⟩, fun D hD => ?_⟩
  have s0 : Same H (upd H D (.lst [])) := same_upd hD
  refine lc_list (K := K) (xs := ns.map V.int) (Qd := Q (.ref D)) (fun i H' => Same H H' ∧ H' D = some (.lst (((ns.take i).map f).map V.int))) ⟨s0, upd_same⟩ (fun i H' _ p => p.1.seq hx) (fun i x H' hi p => ?_) (fun H' p => ?_)
  · rw [List.getElem?_map] at hi
    cases e : ns[i]? with
    | none =>
      rw [e] at hi
      cases hi
    | some z =>
      rw [e] at hi
      cases hi
      refine ⟨hw _, ?_⟩
      unfold tYes
      dsimp only
      rw [if_pos rfl]
      refine he z (List.mem_of_getElem? e) H' _ p.1 (fun H4 s4 => ?_)
      refine ⟨_, s4 _ _ p.2, ?_, fun b o eb => ?_, ?_⟩
      · rw [List.length_map, List.length_map, List.length_take]
        exact small1000 (Nat.le_trans (Nat.min_le_right _ _) hl)
      · rw [upd_ne (ne_of_none eb hD)]
        exact s4 _ _ (p.1 _ _ eb)
      · rw [upd_same, take_succ' e, List.map_append, List.map_append]
        rfl
  · rw [List.length_map] at p
    rw [List.take_length] at p
    exact h D hD H' p.1 p.2
theorem small6 {n : Nat} (h : n ≤ 100) : n < 1000 := by omega
end Gh
namespace Gh
open PySem PySem.Spec PyProof.Rows L2
def topS (i : Nat) : Stmt := PySem.Challenge.pw_gaphand_k01_place_and_turns.main.body.getD i (.Pass ⟨0, 0, 0, 0⟩)
abbrev s_is_whole : Stmt := topS 5
abbrev N_is_whole : List Str := ["thing"]
theorem sc_is_whole : FnScope N_is_whole ["thing"] (defScope s_is_whole) := ⟨rfl, rfl, rfl, by decide +kernel, rfl, by decide +kernel, by decide +kernel⟩
abbrev s_common : Stmt := topS 6
abbrev N_common : List Str := ["one", "other"]
theorem sc_common : FnScope N_common ["one", "other"] (defScope s_common) := ⟨rfl, rfl, rfl, by decide +kernel, rfl, by decide +kernel, by decide +kernel⟩
abbrev s_need_beats : Stmt := topS 7
abbrev N_need_beats : List Str := ["many", "least"]
theorem sc_need_beats : FnScope N_need_beats ["many", "least"] (defScope s_need_beats) := ⟨rfl, rfl, rfl, by decide +kernel, rfl, by decide +kernel, by decide +kernel⟩
abbrev s_Wheel_init : Stmt := inClass (topS 8) 0
abbrev N_Wheel_init : List Str := ["self", "size", "step", "start", "number"]
theorem sc_Wheel_init : FnScope N_Wheel_init ["self", "size", "step", "start"] (defScope s_Wheel_init) := ⟨rfl, rfl, rfl, by decide +kernel, rfl, by decide +kernel, by decide +kernel⟩
abbrev s_Wheel_reached : Stmt := inClass (topS 8) 1
abbrev N_Wheel_reached : List Str := ["self", "beat"]
theorem sc_Wheel_reached : FnScope N_Wheel_reached ["self", "beat"] (defScope s_Wheel_reached) := ⟨rfl, rfl, rfl, by decide +kernel, rfl, by decide +kernel, by decide +kernel⟩
abbrev s_Wheel_place : Stmt := inClass (topS 8) 2
abbrev N_Wheel_place : List Str := ["self", "beat"]
theorem sc_Wheel_place : FnScope N_Wheel_place ["self", "beat"] (defScope s_Wheel_place) := ⟨rfl, rfl, rfl, by decide +kernel, rfl, by decide +kernel, by decide +kernel⟩
abbrev s_Wheel_turns : Stmt := inClass (topS 8) 3
abbrev N_Wheel_turns : List Str := ["self", "beat"]
theorem sc_Wheel_turns : FnScope N_Wheel_turns ["self", "beat"] (defScope s_Wheel_turns) := ⟨rfl, rfl, rfl, by decide +kernel, rfl, by decide +kernel, by decide +kernel⟩
abbrev s_law_cell_at : Stmt := topS 10
abbrev N_law_cell_at : List Str := ["_law_script", "_law_k"]
theorem sc_law_cell_at : FnScope N_law_cell_at ["_law_script", "_law_k"] (defScope s_law_cell_at) := ⟨rfl, rfl, rfl, by decide +kernel, rfl, by decide +kernel, by decide +kernel⟩
abbrev s_law_whole : Stmt := topS 11
abbrev N_law_whole : List Str := ["_law_found"]
theorem sc_law_whole : FnScope N_law_whole ["_law_found"] (defScope s_law_whole) := ⟨rfl, rfl, rfl, by decide +kernel, rfl, by decide +kernel, by decide +kernel⟩
abbrev s_law_signed : Stmt := topS 12
abbrev N_law_signed : List Str := ["_law_cell", "_law_number"]
theorem sc_law_signed : FnScope N_law_signed ["_law_cell"] (defScope s_law_signed) := ⟨rfl, rfl, rfl, by decide +kernel, rfl, by decide +kernel, by decide +kernel⟩
abbrev s_law_kept : Stmt := topS 13
abbrev N_law_kept : List Str := ["_law_found", "_law_handed", "_law_size"]
theorem sc_law_kept : FnScope N_law_kept ["_law_found", "_law_handed", "_law_size"] (defScope s_law_kept) := ⟨rfl, rfl, rfl, by decide +kernel, rfl, by decide +kernel, by decide +kernel⟩
abbrev s_law_fields : Stmt := topS 14
abbrev N_law_fields : List Str := ["_law_wheel", "_law_size", "_law_step", "_law_start"]
theorem sc_law_fields : FnScope N_law_fields ["_law_wheel", "_law_size", "_law_step", "_law_start"] (defScope s_law_fields) := ⟨rfl, rfl, rfl, by decide +kernel, rfl, by decide +kernel, by decide +kernel⟩
abbrev s_law_stands : Stmt := topS 15
abbrev N_law_stands : List Str := ["_law_wheel", "_law_size", "_law_beat", "_law_number", "_law_place", "_law_turns"]
theorem sc_law_stands : FnScope N_law_stands ["_law_wheel", "_law_size", "_law_beat", "_law_number"] (defScope s_law_stands) := ⟨rfl, rfl, rfl, by decide +kernel, rfl, by decide +kernel, by decide +kernel⟩
abbrev s_law : Stmt := topS 16
abbrev N_law : List Str := ["_law_script", "_law_size", "_law_step", "_law_start", "_law_wheel", "_law_beside", "_law_first", "_law_by", "_law_beat", "_law_cell"]
theorem sc_law : FnScope N_law ["_law_script"] (defScope s_law) := ⟨rfl, rfl, rfl, by decide +kernel, rfl, by decide +kernel, by decide +kernel⟩
structure Txt (K : PySem.W.Frag) (mg : Str → Option Value) where
  C_HandError : Addr
  g_HandError : mg "HandError" = some (.ref C_HandError)
  C_NoWheel : Addr
  g_NoWheel : mg "NoWheel" = some (.ref C_NoWheel)
  x_NoWheel : PySem.W.excIn K C_NoWheel [.type "ValueError", .type "Exception", .type "BaseException", .type "object"] "ValueError.__new__" = true
  k_NoWheel : PySem.W.keepIn K (.ref C_NoWheel) = true
  eb_NoWheel : PySem.W.subIn K (.ref C_NoWheel) (.type "BaseException") = some true
  et_NoWheel : PySem.W.typeIn K (.ref C_NoWheel) = some (.type "type")
  C_NoBeats : Addr
  g_NoBeats : mg "NoBeats" = some (.ref C_NoBeats)
  x_NoBeats : PySem.W.excIn K C_NoBeats [.type "ValueError", .type "Exception", .type "BaseException", .type "object"] "ValueError.__new__" = true
  k_NoBeats : PySem.W.keepIn K (.ref C_NoBeats) = true
  eb_NoBeats : PySem.W.subIn K (.ref C_NoBeats) (.type "BaseException") = some true
  et_NoBeats : PySem.W.typeIn K (.ref C_NoBeats) = some (.type "type")
  C_Wheel : Addr
  g_Wheel : mg "Wheel" = some (.ref C_Wheel)
  c_Wheel : Cls K C_Wheel
  n_size : NoAttr K C_Wheel "size"
  n_step : NoAttr K C_Wheel "step"
  n_start : NoAttr K C_Wheel "start"
  n_lap : NoAttr K C_Wheel "lap"
  a_is_whole : Addr
  fd_is_whole : FuncData
  F_is_whole : Fun K "is_whole" "is_whole" s_is_whole a_is_whole fd_is_whole
  b_is_whole : Binds K fd_is_whole ["thing"] []
  g_is_whole : mg "is_whole" = some (.ref a_is_whole)
  a_common : Addr
  fd_common : FuncData
  F_common : Fun K "common" "common" s_common a_common fd_common
  b_common : Binds K fd_common ["one", "other"] []
  g_common : mg "common" = some (.ref a_common)
  a_need_beats : Addr
  fd_need_beats : FuncData
  F_need_beats : Fun K "need_beats" "need_beats" s_need_beats a_need_beats fd_need_beats
  b_need_beats : Binds K fd_need_beats ["many", "least"] []
  g_need_beats : mg "need_beats" = some (.ref a_need_beats)
  a_Wheel_init : Addr
  fd_Wheel_init : FuncData
  F_Wheel_init : FunD K "__init__" "Wheel.__init__" (defArgs s_Wheel_init) (defBody s_Wheel_init) (defScope s_Wheel_init) [.int 0] [] a_Wheel_init fd_Wheel_init
  d3_Wheel_init : List Value
  v3_Wheel_init : Vals [] d3_Wheel_init
  b3_Wheel_init : Binds K fd_Wheel_init ["self", "size", "step", "start"] d3_Wheel_init
  d2_Wheel_init : List Value
  v2_Wheel_init : Vals [.int 0] d2_Wheel_init
  b2_Wheel_init : Binds K fd_Wheel_init ["self", "size", "step", "start"] d2_Wheel_init
  m_Wheel_init : Meth K C_Wheel "__init__" a_Wheel_init
  M_Wheel : Mk K C_Wheel a_Wheel_init
  a_Wheel_reached : Addr
  fd_Wheel_reached : FuncData
  F_Wheel_reached : Fun K "reached" "Wheel.reached" s_Wheel_reached a_Wheel_reached fd_Wheel_reached
  b_Wheel_reached : Binds K fd_Wheel_reached ["self", "beat"] []
  m_Wheel_reached : Meth K C_Wheel "reached" a_Wheel_reached
  a_Wheel_place : Addr
  fd_Wheel_place : FuncData
  F_Wheel_place : Fun K "place" "Wheel.place" s_Wheel_place a_Wheel_place fd_Wheel_place
  b_Wheel_place : Binds K fd_Wheel_place ["self", "beat"] []
  m_Wheel_place : Meth K C_Wheel "place" a_Wheel_place
  a_Wheel_turns : Addr
  fd_Wheel_turns : FuncData
  F_Wheel_turns : Fun K "turns" "Wheel.turns" s_Wheel_turns a_Wheel_turns fd_Wheel_turns
  b_Wheel_turns : Binds K fd_Wheel_turns ["self", "beat"] []
  m_Wheel_turns : Meth K C_Wheel "turns" a_Wheel_turns
  a_law_cell_at : Addr
  fd_law_cell_at : FuncData
  F_law_cell_at : Fun K "_law_cell_at" "_law_cell_at" s_law_cell_at a_law_cell_at fd_law_cell_at
  b_law_cell_at : Binds K fd_law_cell_at ["_law_script", "_law_k"] []
  g_law_cell_at : mg "_law_cell_at" = some (.ref a_law_cell_at)
  a_law_whole : Addr
  fd_law_whole : FuncData
  F_law_whole : Fun K "_law_whole" "_law_whole" s_law_whole a_law_whole fd_law_whole
  b_law_whole : Binds K fd_law_whole ["_law_found"] []
  g_law_whole : mg "_law_whole" = some (.ref a_law_whole)
  a_law_signed : Addr
  fd_law_signed : FuncData
  F_law_signed : Fun K "_law_signed" "_law_signed" s_law_signed a_law_signed fd_law_signed
  b_law_signed : Binds K fd_law_signed ["_law_cell"] []
  g_law_signed : mg "_law_signed" = some (.ref a_law_signed)
  a_law_kept : Addr
  fd_law_kept : FuncData
  F_law_kept : Fun K "_law_kept" "_law_kept" s_law_kept a_law_kept fd_law_kept
  b_law_kept : Binds K fd_law_kept ["_law_found", "_law_handed", "_law_size"] []
  g_law_kept : mg "_law_kept" = some (.ref a_law_kept)
  a_law_fields : Addr
  fd_law_fields : FuncData
  F_law_fields : Fun K "_law_fields" "_law_fields" s_law_fields a_law_fields fd_law_fields
  b_law_fields : Binds K fd_law_fields ["_law_wheel", "_law_size", "_law_step", "_law_start"] []
  g_law_fields : mg "_law_fields" = some (.ref a_law_fields)
  a_law_stands : Addr
  fd_law_stands : FuncData
  F_law_stands : Fun K "_law_stands" "_law_stands" s_law_stands a_law_stands fd_law_stands
  b_law_stands : Binds K fd_law_stands ["_law_wheel", "_law_size", "_law_beat", "_law_number"] []
  g_law_stands : mg "_law_stands" = some (.ref a_law_stands)
  a_law : Addr
  fd_law : FuncData
  F_law : Fun K "law" "law" s_law a_law fd_law
  b_law : Binds K fd_law ["_law_script"] []
  g_law : mg "law" = some (.ref a_law)
  z_ValueError : mg "ValueError" = none
  z_isinstance : mg "isinstance" = none
  z_int : mg "int" = none
  z_len : mg "len" = none
  z_bool : mg "bool" = none
  z_abs : mg "abs" = none
def sp_law (K : PySem.W.Frag) : Sp := fun vs H Q _ => ∃ (a : Addr) (ns : List Int), vs = [.ref a] ∧ SqL K H a (ns.map V.int) ∧ ns.length ≤ 63 ∧ (∀ z ∈ ns, Builtin.Int.intBits z ≤ 1048576) ∧ ∀ H', Q (.bl true) H'
section
variable {P : Program} {w : World} {K : PySem.W.Frag} {mg : Str → Option Value} {base : Heap}
local macro_rules | `(tactic| walk_at "go") => `(tactic| repeat (first
  | (with_reducible first
    | refine g_seq ?_ | refine g_next ?_ | refine g_asg ?_ | refine g_name ?_ | refine g_c ?_ | refine g_op ?_ | refine g_un ?_ | refine g_rU ?_ | refine g_rI0 ?_ | refine g_eqI ?_ | refine g_neI ?_
    | refine g_ret ?_ | refine g_retN ?_ | refine g_drop ?_ | refine g_ifS ?_ | refine g_B ?_ | refine g_test ?_ | refine g_bl ?_ | refine g_and ?_ | refine g_or ?_ | refine g_not ?_ | refine g_andV ?_ | refine g_orV ?_ | refine g_notV ?_
    | refine g_cb ?_ | refine g_cons ?_ | refine g_nil ?_ | refine g_call ?_ | refine g_par ?_ | refine g_two ?_ | refine g_for ?_ | refine g_iL ?_ | refine g_iT ?_ | refine g_tup ?_ | refine g_lst ?_ | refine g_sfld ?_ | refine g_meth ?_ | refine g_make ?_ | refine g_sl ?_ | refine g_part ?_ | refine g_nopart ?_ | refine g_int ?_ | refine g_int1 ?_ | refine g_int2 ?_ | refine g_lc ?_)
  | ((with_reducible refine' g_var ?e1 ?_); (case e1 => exact rfl))
  | ((with_reducible refine g_mod ?e2 ?_); (case e2 => first | decide | omega))
  | ((with_reducible refine g_nT ?_))
  | ((with_reducible refine g_nF ?_))
  | ((with_reducible refine iteT ?_))
  | ((with_reducible refine iteF ?_))))
def sp_is_whole (_ : Txt K mg) : Sp := fun vs H Q _ => ∃ (v : V) (b : Bool), vs = [v] ∧ Kind K H v b ∧ Q (.bl b) H
theorem ok_is_whole (T : Txt K mg) : FnOk P w K mg base CX0 1 T.a_is_whole T.fd_is_whole ["thing"] (sp_is_whole T) := by
  refine T.F_is_whole.ok sc_is_whole (fun vs H Q E h => ?_) (fun cdv A outer s H vs Q E hr h => ?_)
  · obtain ⟨v, b, rfl, _⟩ := h
    rfl
  · obtain ⟨v, b, rfl, h⟩ := h
    refine ⟨_, pss_one (ps_ret (pe_and (pe_callB call_isi (by rfl) T.z_isinstance (by decide +kernel) (pa_cons (pv 0) (pa_cons (pe_bltn (v := .ty "int") (by rfl) T.z_int (by decide +kernel) rfl) pa_nil))) (pe_one (pe_not (pe_callB call_isi (by rfl) T.z_isinstance (by decide +kernel) (pa_cons (pv 0) (pa_cons (pe_bltn (v := .ty "bool") (by rfl) T.z_bool (by decide +kernel) rfl) pa_nil))))))), ?_⟩
    obtain ⟨⟨t, b1, b2, ty, k1, k2, rfl⟩, q⟩ := h
    walk_at "go"
    refine g_isi ty k1 ?_
    walk_at "go"
    cases b1 with
    | false => exact iteF q
    | true =>
      walk_at "go"
      refine g_isi ty k2 ?_
      walk_at "go"
      exact q
def sp_common (_ : Txt K mg) : Sp := fun vs H Q _ => ∃ a b : Int, vs = [.int a, .int b] ∧ 0 ≤ a ∧ 0 ≤ b ∧ Q (.int (Int.gcd a b)) H
theorem ok_common (T : Txt K mg) : FnOk P w K mg base CX0 1 T.a_common T.fd_common ["one", "other"] (sp_common T) := by
  refine T.F_common.ok sc_common (fun vs H Q E h => ?_) (fun cdv A outer s H vs Q E hr h => ?_)
  · obtain ⟨a, b, rfl, _⟩ := h
    rfl
  · obtain ⟨a, b, rfl, h⟩ := h
    refine ⟨_, pss_cons (ps_while PassesOwn.never (pt_cmpR op_gt (pv 1) pe_int (nomark _)) (pss_one (ps_par (i := 0) (j := 1) (by rfl) sc_common.nd rfl rfl (by decide) rfl rfl (pa_cons (pv 1) (pa_cons (pe_op op_mod (pv 0) (pv 1)) pa_nil)) (by rfl))))
 (pss_one (ps_ret (pv 0))), ?_⟩
    obtain ⟨ha, hb, q⟩ := h
    walk_at "go"
    refine g_while (fun m σ H' => ∃ x y : Int, σ = [some (.int x), some (.int y)] ∧ H' = H ∧ 0 ≤ x ∧ 0 ≤ y ∧ Int.gcd x y = Int.gcd a b ∧ m = y.toNat) _ ⟨a, b, rfl, rfl, ha, hb, rfl, rfl⟩ ?_
    rintro m σ H' ⟨x, y, rfl, rfl, hx, hy, hg, rfl⟩
    walk_at "go"
    refine g_dec (fun h => ?_) (fun h => ?_)
    · refine g_body ?_
      walk_at "go"
      exact ⟨_, Nat.lt_of_le_of_lt (Nat.le_of_eq rfl) (by have := Int.emod_lt_of_pos x h; have := Int.emod_nonneg x (show y ≠ 0 by omega); omega), y, x % y, rfl, rfl, hy, Int.emod_nonneg x (by omega), by rw [gcd_step hx h, hg], rfl⟩
    · walk_at "go"
      have e : y = 0 := by omega
      subst e
      rw [Int.gcd_zero_right] at hg
      have e2 : ((Int.gcd a b : Nat) : Int) = x := by omega
      rw [e2] at q
      exact q
def sp_need_beats (T : Txt K mg) : Sp := fun vs H Q E => ∃ (v : V) (least : Int), vs = [v, .int least] ∧ ((∃ i, v = .int i ∧ least ≤ i ∧ i ≤ 1000000000000000000000000000000000000000000000000000000000000 ∧ Q .non H) ∨ (Bad K H v least 1000000000000000000000000000000000000000000000000000000000000 ∧ E (.ref T.C_NoBeats) none H))
theorem ok_need_beats (T : Txt K mg) : FnOk P w K mg base (L2.CX P w) 2 T.a_need_beats T.fd_need_beats ["many", "least"] (sp_need_beats T) := by
  refine T.F_need_beats.okX sc_need_beats (fun vs H Q E h => ?_) (fun cdv A outer s H vs Q E hr h => ?_)
  · obtain ⟨v, least, rfl, _⟩ := h
    rfl
  · obtain ⟨v, least, rfl, h⟩ := h
    refine ⟨_, pss_one (ps_if (PW.pt (pw_or (pt_not (pt_val (pe_call (ok_is_whole T) (hr.mono (by decide)) (by rfl) T.g_is_whole T.F_is_whole.kp T.b_is_whole .nil pass0 (pa_cons (pv 0) pa_nil)))) (pw_or (pt_cmpR op_lt (pv 0) (pv 1) (nomark _)) (pw_or1 (pt_cmpR op_gt (pv 0) (pe_lpow (v := 1000000000000000000000000000000000000000000000000000000000000) (pe_int) (pe_int) (by decide) (by decide +kernel)) (nomark _))))))
  (pss_one (ps_raise rfl (takes_of rfl rfl rfl rfl) (pmk_own PySem.F.excBase_ValueError T.x_NoBeats T.g_NoBeats T.k_NoBeats (raises_own T.eb_NoBeats T.et_NoBeats) rfl)))
  (pss_nil)), ?_⟩
    rcases h with ⟨i, rfl, h1, h2, q⟩ | ⟨hk, q⟩
    · walk_at "go"
      refine ⟨_, true, rfl, kind_int, ?_⟩
      walk_at "go"
      refine g_decF (by omega) ?_
      walk_at "go"
      refine g_decF (by omega) ?_
      walk_at "go"
      exact q
    · rcases hk with hk | ⟨i, rfl, hi⟩
      · walk_at "go"
        refine ⟨_, false, rfl, hk, ?_⟩
        walk_at "go"
        exact q
      · walk_at "go"
        refine ⟨_, true, rfl, kind_int, ?_⟩
        walk_at "go"
        refine g_dec (fun _ => ?_) (fun _ => ?_)
        · walk_at "go"
          exact q
        · walk_at "go"
          refine g_decT (by omega) ?_
          exact q
/-! ### a wheel -/
def wflds (size step start lap : Int) : List (Str × V) := putF "lap" (.int lap) (putF "start" (.int start) (putF "step" (.int step) (putF "size" (.int size) [])))
theorem ne_st : ¬ (("size" : Str) = "lap") ∧ ¬ (("step" : Str) = "lap") ∧ ¬ (("start" : Str) = "lap") ∧ ¬ (("size" : Str) = "start") ∧ ¬ (("step" : Str) = "start") ∧ ¬ (("size" : Str) = "step") := by decide +kernel
theorem wf_lap (a b c d : Int) : (wflds a b c d).lookup ("lap" : Str) = some (V.int d) := by
  unfold wflds
  rw [lookup_putF, if_pos rfl]
theorem wf_start (a b c d : Int) : (wflds a b c d).lookup ("start" : Str) = some (V.int c) := by
  unfold wflds
  rw [lookup_putF, if_neg ne_st.2.2.1, lookup_putF, if_pos rfl]
theorem wf_step (a b c d : Int) : (wflds a b c d).lookup ("step" : Str) = some (V.int b) := by
  unfold wflds
  rw [lookup_putF, if_neg ne_st.2.1, lookup_putF, if_neg ne_st.2.2.2.2.1, lookup_putF, if_pos rfl]
theorem wf_size (a b c d : Int) : (wflds a b c d).lookup ("size" : Str) = some (V.int a) := by
  unfold wflds
  rw [lookup_putF, if_neg ne_st.1, lookup_putF, if_neg ne_st.2.2.2.1, lookup_putF, if_neg ne_st.2.2.2.2.2, lookup_putF, if_pos rfl]
theorem wf_none (a b c d : Int) {m : Str} (h : ¬ (m = ("lap" : Str)) ∧ ¬ (m = ("start" : Str)) ∧ ¬ (m = ("step" : Str)) ∧ ¬ (m = ("size" : Str))) : (wflds a b c d).lookup m = none := by
  unfold wflds
  rw [lookup_putF, if_neg h.1, lookup_putF, if_neg h.2.1, lookup_putF, if_neg h.2.2.1, lookup_putF, if_neg h.2.2.2]
  rfl
theorem fl1 {a : Str} {x : V} : (putF a x []).length < 1000 := by
  have h := length_putF a x []
  exact Nat.lt_of_le_of_lt h (by decide)
theorem fl2 {a b : Str} {x y : V} : (putF a x (putF b y [])).length < 1000 := by
  have h := length_putF a x (putF b y [])
  have h2 := length_putF b y []
  have e : ([] : List (Str × V)).length = 0 := rfl
  omega
theorem fl3 {a b c : Str} {x y z : V} : (putF a x (putF b y (putF c z []))).length < 1000 := by
  have h := length_putF a x (putF b y (putF c z []))
  have h2 := length_putF b y (putF c z [])
  have h3 := length_putF c z []
  have e : ([] : List (Str × V)).length = 0 := rfl
  omega
theorem lk_step {x y z : V} : (putF "start" x (putF "step" y (putF "size" z []))).lookup ("step" : Str) = some y := by
  rw [lookup_putF, if_neg ne_st.2.2.2.2.1, lookup_putF, if_pos rfl]
structure Whl (C : Addr) (H : Hp) (p : Addr) (size step start : Int) : Prop where
  ob : ∃ dx, H p = some (.ins C dx (wflds size step start (size / (Int.gcd size step : Int))))
  s1 : 1 ≤ size
  s2 : size ≤ 1000000000000000000000000000000000000000000000000000000000000
  t0 : 0 ≤ step
  t1 : step < size
  a0 : 0 ≤ start
  a1 : start < size
theorem Whl.same {C : Addr} {H H' : Hp} {p : Addr} {size step start : Int} (e : Same H H') (W : Whl C H p size step start) : Whl C H' p size step start := by
  obtain ⟨dx, h⟩ := W.ob
  exact ⟨⟨dx, e _ _ h⟩, W.s1, W.s2, W.t0, W.t1, W.a0, W.a1⟩
section
variable {T : Txt K mg} {σ : L2.St} {H : Hp} {Q : VK} {n : Nat} {p : Addr} {size step start : Int}
theorem g_size (W : Whl T.C_Wheel H p size step start) (hv : σ[n]? = some (some (.ref p))) (h : Q (.int size) H) : tFld K (tVar n) "size" σ H Q := by
  obtain ⟨dx, hp⟩ := W.ob
  exact g_fldV hv hp T.c_Wheel T.n_size (wf_size ..) h
theorem g_step (W : Whl T.C_Wheel H p size step start) (hv : σ[n]? = some (some (.ref p))) (h : Q (.int step) H) : tFld K (tVar n) "step" σ H Q := by
  obtain ⟨dx, hp⟩ := W.ob
  exact g_fldV hv hp T.c_Wheel T.n_step (wf_step ..) h
theorem g_start (W : Whl T.C_Wheel H p size step start) (hv : σ[n]? = some (some (.ref p))) (h : Q (.int start) H) : tFld K (tVar n) "start" σ H Q := by
  obtain ⟨dx, hp⟩ := W.ob
  exact g_fldV hv hp T.c_Wheel T.n_start (wf_start ..) h
theorem g_lap (W : Whl T.C_Wheel H p size step start) (hv : σ[n]? = some (some (.ref p))) (h : Q (.int (size / (Int.gcd size step : Int))) H) : tFld K (tVar n) "lap" σ H Q := by
  obtain ⟨dx, hp⟩ := W.ob
  exact g_fldV hv hp T.c_Wheel T.n_lap (wf_lap ..) h
end
local macro_rules | `(tactic| walk_at "gw") => `(tactic| repeat (first
  | (with_reducible first
    | refine g_seq ?_ | refine g_next ?_ | refine g_asg ?_ | refine g_name ?_ | refine g_c ?_ | refine g_op ?_ | refine g_un ?_ | refine g_rU ?_ | refine g_rI0 ?_ | refine g_eqI ?_ | refine g_neI ?_
    | refine g_ret ?_ | refine g_retN ?_ | refine g_drop ?_ | refine g_ifS ?_ | refine g_B ?_ | refine g_test ?_ | refine g_bl ?_ | refine g_and ?_ | refine g_or ?_ | refine g_not ?_ | refine g_andV ?_ | refine g_orV ?_ | refine g_notV ?_
    | refine g_cb ?_ | refine g_cons ?_ | refine g_nil ?_ | refine g_call ?_ | refine g_par ?_ | refine g_two ?_ | refine g_for ?_ | refine g_iL ?_ | refine g_iT ?_ | refine g_tup ?_ | refine g_lst ?_ | refine g_sfld ?_ | refine g_meth ?_ | refine g_make ?_ | refine g_sl ?_ | refine g_part ?_ | refine g_nopart ?_ | refine g_int ?_ | refine g_int1 ?_ | refine g_int2 ?_ | refine g_lc ?_)
  | ((with_reducible refine' g_var ?e1 ?_); (case e1 => exact rfl))
  | ((with_reducible refine g_mod ?e2 ?_); (case e2 => first | decide | omega))
  | ((with_reducible refine' g_size ?e4 ?e5 ?_); (case e5 => exact rfl); (case e4 => assumption))
  | ((with_reducible refine' g_step ?e4 ?e5 ?_); (case e5 => exact rfl); (case e4 => assumption))
  | ((with_reducible refine' g_start ?e4 ?e5 ?_); (case e5 => exact rfl); (case e4 => assumption))
  | ((with_reducible refine' g_lap ?e4 ?e5 ?_); (case e5 => exact rfl); (case e4 => assumption))
  | ((with_reducible refine g_nT ?_))
  | ((with_reducible refine g_nF ?_))
  | ((with_reducible refine iteT ?_))
  | ((with_reducible refine iteF ?_))))
def sp_Wheel_init (T : Txt K mg) : Sp := fun vs H Q E => ∃ (p : Addr) (v1 v2 v3 : V), vs = [.ref p, v1, v2, v3] ∧ (∃ dx, H p = some (.ins T.C_Wheel dx [])) ∧
  ((∃ size step start : Int, v1 = .int size ∧ v2 = .int step ∧ v3 = .int start ∧ (1 ≤ size ∧ size ≤ 1000000000000000000000000000000000000000000000000000000000000) ∧ (-1000000000000000000000000000000000000000000000000000000000000 ≤ step ∧ step ≤ 1000000000000000000000000000000000000000000000000000000000000) ∧ (-1000000000000000000000000000000000000000000000000000000000000 ≤ start ∧ start ≤ 1000000000000000000000000000000000000000000000000000000000000) ∧
      ∀ H', (∀ b o, H b = some o → b ≠ p → H' b = some o) → Whl T.C_Wheel H' p size (step % size) (start % size) → Q .non H') ∨
    ((Bad K H v1 1 1000000000000000000000000000000000000000000000000000000000000 ∨ ((∃ i, v1 = .int i ∧ 1 ≤ i ∧ i ≤ 1000000000000000000000000000000000000000000000000000000000000) ∧ (Bad K H v2 (-1000000000000000000000000000000000000000000000000000000000000) 1000000000000000000000000000000000000000000000000000000000000 ∨ ((∃ i, v2 = .int i ∧ -1000000000000000000000000000000000000000000000000000000000000 ≤ i ∧ i ≤ 1000000000000000000000000000000000000000000000000000000000000) ∧ Bad K H v3 (-1000000000000000000000000000000000000000000000000000000000000) 1000000000000000000000000000000000000000000000000000000000000)))) ∧ ∀ H', Same H H' → E (.ref T.C_NoWheel) none H'))
/-- what the loop over step and start asks of each -/
theorem init_bad {K : PySem.W.Frag} {H : Hp} {i : Int} (h : Bad K H (.int i) (-1000000000000000000000000000000000000000000000000000000000000) 1000000000000000000000000000000000000000000000000000000000000) : ¬ (-1000000000000000000000000000000000000000000000000000000000000 ≤ i ∧ i ≤ 1000000000000000000000000000000000000000000000000000000000000) := by
  rcases h with ⟨t, b1, b2, ty, k1, k2, e⟩ | ⟨j, e, h⟩
  · cases ty with
    | base z =>
      cases z with
      | int i =>
        rw [kit_ty (r := true) (by decide +kernel)] at k1
        rw [kit_ty (r := false) (by decide +kernel)] at k2
        cases k1
        cases k2
        cases e
  · cases e
    exact h
theorem ok_Wheel_init (T : Txt K mg) : FnOk P w K mg base (L2.CX P w) 2 T.a_Wheel_init T.fd_Wheel_init ["self", "size", "step", "start"] (sp_Wheel_init T) := by
  refine T.F_Wheel_init.ok sc_Wheel_init (fun vs H Q E h => ?_) (fun cdv A outer s H vs Q E hr h => ?_)
  · obtain ⟨p, v1, v2, v3, rfl, _⟩ := h
    rfl
  · obtain ⟨p, v1, v2, v3, rfl, h⟩ := h
    refine ⟨_, pss_cons (ps_if (PW.pt (pw_or (pt_not (pt_val (pe_call (ok_is_whole T) (hr.mono (by decide)) (by rfl) T.g_is_whole T.F_is_whole.kp T.b_is_whole .nil pass0 (pa_cons (pv 1) pa_nil)))) (pw_or (pt_cmpR op_lt (pv 1) pe_int (nomark _)) (pw_or1 (pt_cmpR op_gt (pv 1) (pe_lpow (v := 1000000000000000000000000000000000000000000000000000000000000) (pe_int) (pe_int) (by decide) (by decide +kernel)) (nomark _))))))
  (pss_one (ps_raise rfl (takes_of rfl rfl rfl rfl) (pmk_own PySem.F.excBase_ValueError T.x_NoWheel T.g_NoWheel T.k_NoWheel (raises_own T.eb_NoWheel T.et_NoWheel) rfl)))
  (pss_nil))
 (pss_cons (ps_for (passes_of rfl) rfl (pi_tup (pe_tup (pa_cons (pv 2) (pa_cons (pv 3) pa_nil)))) (pg_name (i := 4) sc_Wheel_init.nd rfl (.inl rfl)) (pss_one (ps_if (PW.pt (pw_or (pt_not (pt_val (pe_call (ok_is_whole T) (hr.mono (by decide)) (by rfl) T.g_is_whole T.F_is_whole.kp T.b_is_whole .nil pass0 (pa_cons (pv 4) pa_nil)))) (pw_or1 (pt_cmpR op_gt (pe_callB call_abs (by rfl) T.z_abs (by decide +kernel) (pa_cons (pv 4) pa_nil)) (pe_lpow (v := 1000000000000000000000000000000000000000000000000000000000000) (pe_int) (pe_int) (by decide) (by decide +kernel)) (nomark _)))))
  (pss_one (ps_raise rfl (takes_of rfl rfl rfl rfl) (pmk_own PySem.F.excBase_ValueError T.x_NoWheel T.g_NoWheel T.k_NoWheel (raises_own T.eb_NoWheel T.et_NoWheel) rfl)))
  (pss_nil))))
 (pss_cons (ps_fld (pv 0) (pv 1) rfl)
 (pss_cons (ps_fld (pv 0) (pe_op op_mod (pv 2) (pv 1)) rfl)
 (pss_cons (ps_fld (pv 0) (pe_op op_mod (pv 3) (pv 1)) rfl)
 (pss_one (ps_fld (pv 0) (pe_op op_fdivW (pv 1) (pe_call (ok_common T) (hr.mono (by decide)) (by rfl) T.g_common T.F_common.kp T.b_common .nil pass0 (pa_cons (pv 1) (pa_cons (pe_fld (pv 0) rfl) pa_nil)))) rfl)))))), ?_⟩
    obtain ⟨⟨dx, hp⟩, h⟩ := h
    rcases h with ⟨size, step, start, rfl, rfl, rfl, hs, ht, ha, q⟩ | ⟨h, q⟩
    · walk_at "go"
      refine ⟨_, true, rfl, kind_int, ?_⟩
      walk_at "go"
      refine g_decF (by omega) ?_
      walk_at "go"
      refine g_decF (by omega) ?_
      walk_at "go"
      refine g_len (by simp) fun pt npt => ?_
      have s1 : Same H (upd H pt (.tup [.int step, .int start])) := same_upd npt
      have npp : p ≠ pt := ne_of_none hp npt
      refine g_overT (SqT.of upd_same) (fun i σ H' => ∃ y, σ = [some (.ref p), some (.int size), some (.int step), some (.int start), y] ∧ H' = upd H pt (.tup [.int step, .int start])) ⟨_, rfl, rfl⟩ (fun i σ' H' _ h => ?_) ?_ ?_
      · obtain ⟨_, _, rfl⟩ := h
        exact SqT.of upd_same
      · rintro i x σ' H' hx ⟨y, rfl, rfl⟩
        obtain ⟨z, rfl, hz⟩ : ∃ z : Int, x = .int z ∧ -1000000000000000000000000000000000000000000000000000000000000 ≤ z ∧ z ≤ 1000000000000000000000000000000000000000000000000000000000000 := by
          match i, hx with
          | 0, hx => exact ⟨step, (Option.some.inj hx).symm, ht⟩
          | 1, hx => exact ⟨start, (Option.some.inj hx).symm, ha⟩
        walk_at "go"
        refine ⟨_, true, rfl, kind_int, ?_⟩
        walk_at "go"
        refine g_decF (by split <;> omega) ?_
        walk_at "go"
        exact ⟨_, rfl, rfl⟩
      · rintro σ' H' ⟨y, rfl, rfl⟩
        walk_at "go"
        refine ⟨p, T.C_Wheel, dx, [], rfl, s1 _ _ hp, T.c_Wheel, T.n_size, small6 (by simp), ?_⟩
        walk_at "go"
        refine ⟨p, T.C_Wheel, dx, _, rfl, upd_same, T.c_Wheel, T.n_step, fl1, ?_⟩
        walk_at "go"
        refine ⟨p, T.C_Wheel, dx, _, rfl, upd_same, T.c_Wheel, T.n_start, fl2, ?_⟩
        walk_at "go"
        refine g_fldV rfl upd_same T.c_Wheel T.n_step lk_step ?_
        walk_at "go"
        have t0 := Int.emod_nonneg step (show size ≠ 0 by omega)
        have t1 := Int.emod_lt_of_pos step (show 0 < size by omega)
        have a0 := Int.emod_nonneg start (show size ≠ 0 by omega)
        have a1 := Int.emod_lt_of_pos start (show 0 < size by omega)
        refine ⟨_, _, rfl, by omega, t0, ?_⟩
        have g0 : 0 < Int.gcd size (step % size) := Int.gcd_pos_of_ne_zero_left _ (by omega)
        have g1 : ((Int.gcd size (step % size) : Nat) : Int) ≤ size := Int.le_of_dvd (by omega) (Int.gcd_dvd_left ..)
        refine g_div (divW (by omega) (by omega)) ?_
        walk_at "go"
        refine ⟨p, T.C_Wheel, dx, _, rfl, upd_same, T.c_Wheel, T.n_lap, fl3, ?_⟩
        refine q _ (fun b o e hb => ?_) ⟨⟨dx, upd_same⟩, hs.1, hs.2, t0, t1, a0, a1⟩
        rw [upd_ne hb, upd_ne hb, upd_ne hb, upd_ne hb]
        exact s1 _ _ e
    · rcases h with h | ⟨⟨size, rfl, hs⟩, h⟩
      · rcases h with hk | ⟨i, rfl, hi⟩
        · walk_at "go"
          refine ⟨_, false, rfl, hk, ?_⟩
          walk_at "go"
          exact q H (Same.refl H)
        · walk_at "go"
          refine ⟨_, true, rfl, kind_int, ?_⟩
          walk_at "go"
          refine g_dec (fun _ => ?_) (fun _ => ?_)
          · walk_at "go"
            exact q H (Same.refl H)
          · walk_at "go"
            refine g_decT (by omega) ?_
            exact q H (Same.refl H)
      · walk_at "go"
        refine ⟨_, true, rfl, kind_int, ?_⟩
        walk_at "go"
        refine g_decF (by omega) ?_
        walk_at "go"
        refine g_decF (by omega) ?_
        walk_at "go"
        refine g_len (by simp) fun pt npt => ?_
        have s1 : Same H (upd H pt (.tup [v2, v3])) := same_upd npt
        refine g_overT (SqT.of upd_same) (fun i σ H' => (i = 0 ∨ (i = 1 ∧ (∃ z, v2 = .int z ∧ -1000000000000000000000000000000000000000000000000000000000000 ≤ z ∧ z ≤ 1000000000000000000000000000000000000000000000000000000000000) ∧ Bad K H v3 (-1000000000000000000000000000000000000000000000000000000000000) 1000000000000000000000000000000000000000000000000000000000000)) ∧ ∃ y, σ = [some (.ref p), some (.int size), some v2, some v3, y] ∧ H' = upd H pt (.tup [v2, v3])) ⟨.inl rfl, _, rfl, rfl⟩ (fun i σ' H' _ h => ?_) ?_ ?_
        · obtain ⟨_, _, _, rfl⟩ := h
          exact SqT.of upd_same
        · rintro i x σ' H' hx ⟨hi, y, rfl, rfl⟩
          -- one of the two: it is fine and the other one bad, or it is bad
          have hx2 : (∃ z, x = .int z ∧ (-1000000000000000000000000000000000000000000000000000000000000 ≤ z ∧ z ≤ 1000000000000000000000000000000000000000000000000000000000000) ∧ i = 0 ∧ v2 = .int z ∧ Bad K H v3 (-1000000000000000000000000000000000000000000000000000000000000) 1000000000000000000000000000000000000000000000000000000000000) ∨ Bad K H x (-1000000000000000000000000000000000000000000000000000000000000) 1000000000000000000000000000000000000000000000000000000000000 := by
            rcases hi with rfl | ⟨rfl, _, hb⟩
            · have e : v2 = x := Option.some.inj hx
              subst e
              rcases h with h | ⟨⟨z, rfl, hz⟩, hb⟩
              · exact .inr h
              · exact .inl ⟨z, rfl, hz, rfl, rfl, hb⟩
            · have e : v3 = x := Option.some.inj hx
              subst e
              exact .inr hb
          rcases hx2 with ⟨z, rfl, hz, rfl, rfl, hb⟩ | hb
          · walk_at "go"
            refine ⟨_, true, rfl, kind_int, ?_⟩
            walk_at "go"
            refine g_decF (by split <;> omega) ?_
            walk_at "go"
            exact ⟨.inr ⟨rfl, ⟨z, rfl, hz⟩, hb⟩, _, rfl, rfl⟩
          · rcases hb with hk | ⟨z, rfl, hz⟩
            · walk_at "go"
              refine ⟨_, false, rfl, Kind.same s1 hk, ?_⟩
              walk_at "go"
              exact q _ s1
            · walk_at "go"
              refine ⟨_, true, rfl, kind_int, ?_⟩
              walk_at "go"
              refine g_decT (by split <;> omega) ?_
              exact q _ s1
        · rintro σ' H' ⟨hi, _⟩
          rcases hi with hi | ⟨hi, _⟩ <;> simp at hi
/-- a beat that is one, or what is none -/
def sp_Wheel_reached (T : Txt K mg) : Sp := fun vs H Q E => ∃ (p : Addr) (v : V) (size step start : Int), vs = [.ref p, v] ∧ Whl T.C_Wheel H p size step start ∧
  ((∃ i, v = .int i ∧ 0 ≤ i ∧ i ≤ 1000000000000000000000000000000000000000000000000000000000000 ∧ Q (.int (start + i * step)) H) ∨ (Bad K H v 0 1000000000000000000000000000000000000000000000000000000000000 ∧ E (.ref T.C_NoBeats) none H))
theorem ok_Wheel_reached (T : Txt K mg) : FnOk P w K mg base (L2.CX P w) 3 T.a_Wheel_reached T.fd_Wheel_reached ["self", "beat"] (sp_Wheel_reached T) := by
  refine T.F_Wheel_reached.okX sc_Wheel_reached (fun vs H Q E h => ?_) (fun cdv A outer s H vs Q E hr h => ?_)
  · obtain ⟨p, v, size, step, start, rfl, _⟩ := h
    rfl
  · obtain ⟨p, v, size, step, start, rfl, h⟩ := h
    refine ⟨_, pss_cons (ps_expr (pe_call (ok_need_beats T) (hr.mono (by decide)) (by rfl) T.g_need_beats T.F_need_beats.kp T.b_need_beats .nil (passes_call (takes_of rfl rfl rfl rfl) (fun _ _ _ _ h => h)) (pa_cons (pv 1) (pa_cons pe_int pa_nil))))
 (pss_one (ps_ret (pe_op op_add (pe_fld (pv 0) rfl) (pe_op op_mulB (pv 1) (pe_fld (pv 0) rfl))))), ?_⟩
    obtain ⟨W, h⟩ := h
    walk_at "gw"
    rcases h with ⟨i, rfl, h0, h1, q⟩ | ⟨hb, q⟩
    · refine ⟨_, 0, rfl, .inl ⟨i, rfl, h0, h1, ?_⟩⟩
      walk_at "gw"
      have := W.s2
      have := W.t0
      have := W.t1
      refine g_mul (mulB (by omega) (by omega)) ?_
      walk_at "gw"
      exact q
    · exact ⟨_, 0, rfl, .inr ⟨hb, q⟩⟩
def sp_Wheel_place (T : Txt K mg) : Sp := fun vs H Q E => ∃ (p : Addr) (v : V) (size step start : Int), vs = [.ref p, v] ∧ Whl T.C_Wheel H p size step start ∧
  ((∃ i, v = .int i ∧ 0 ≤ i ∧ i ≤ 1000000000000000000000000000000000000000000000000000000000000 ∧ Q (.int ((start + i * step) % size)) H) ∨ (Bad K H v 0 1000000000000000000000000000000000000000000000000000000000000 ∧ E (.ref T.C_NoBeats) none H))
theorem ok_Wheel_place (T : Txt K mg) : FnOk P w K mg base (L2.CX P w) 4 T.a_Wheel_place T.fd_Wheel_place ["self", "beat"] (sp_Wheel_place T) := by
  refine T.F_Wheel_place.okX sc_Wheel_place (fun vs H Q E h => ?_) (fun cdv A outer s H vs Q E hr h => ?_)
  · obtain ⟨p, v, size, step, start, rfl, _⟩ := h
    rfl
  · obtain ⟨p, v, size, step, start, rfl, h⟩ := h
    refine ⟨_, pss_one (ps_ret (pe_op op_mod (pe_meth (pv 0) T.c_Wheel T.m_Wheel_reached (ok_Wheel_reached T) (hr.mono (by decide)) T.b_Wheel_reached .nil (passes_call (takes_of rfl rfl rfl rfl) (fun _ _ _ _ h => h)) (pa_cons (pv 1) pa_nil)) (pe_fld (pv 0) rfl))), ?_⟩
    obtain ⟨W, h⟩ := h
    walk_at "gw"
    obtain ⟨dx, hp⟩ := id W.ob
    refine ⟨p, dx, _, rfl, hp, wf_none _ _ _ _ (by decide +kernel), ?_⟩
    walk_at "gw"
    rcases h with ⟨i, rfl, h0, h1, q⟩ | ⟨hb, q⟩
    · refine ⟨_, _, _, _, _, rfl, W, .inl ⟨i, rfl, h0, h1, ?_⟩⟩
      walk_at "gw"
      refine g_mod (by have := W.s1; omega) ?_
      exact q
    · exact ⟨_, _, _, _, _, rfl, W, .inr ⟨hb, q⟩⟩
def sp_Wheel_turns (T : Txt K mg) : Sp := fun vs H Q E => ∃ (p : Addr) (v : V) (size step start : Int), vs = [.ref p, v] ∧ Whl T.C_Wheel H p size step start ∧
  ((∃ i, v = .int i ∧ 0 ≤ i ∧ i ≤ 1000000000000000000000000000000000000000000000000000000000000 ∧ Q (.int ((start + i * step) / size)) H) ∨ (Bad K H v 0 1000000000000000000000000000000000000000000000000000000000000 ∧ E (.ref T.C_NoBeats) none H))
theorem ok_Wheel_turns (T : Txt K mg) : FnOk P w K mg base (L2.CX P w) 4 T.a_Wheel_turns T.fd_Wheel_turns ["self", "beat"] (sp_Wheel_turns T) := by
  refine T.F_Wheel_turns.okX sc_Wheel_turns (fun vs H Q E h => ?_) (fun cdv A outer s H vs Q E hr h => ?_)
  · obtain ⟨p, v, size, step, start, rfl, _⟩ := h
    rfl
  · obtain ⟨p, v, size, step, start, rfl, h⟩ := h
    refine ⟨_, pss_one (ps_ret (pe_op op_fdivW (pe_meth (pv 0) T.c_Wheel T.m_Wheel_reached (ok_Wheel_reached T) (hr.mono (by decide)) T.b_Wheel_reached .nil (passes_call (takes_of rfl rfl rfl rfl) (fun _ _ _ _ h => h)) (pa_cons (pv 1) pa_nil)) (pe_fld (pv 0) rfl))), ?_⟩
    obtain ⟨W, h⟩ := h
    walk_at "gw"
    obtain ⟨dx, hp⟩ := id W.ob
    refine ⟨p, dx, _, rfl, hp, wf_none _ _ _ _ (by decide +kernel), ?_⟩
    walk_at "gw"
    rcases h with ⟨i, rfl, h0, h1, q⟩ | ⟨hb, q⟩
    · refine ⟨_, _, _, _, _, rfl, W, .inl ⟨i, rfl, h0, h1, ?_⟩⟩
      walk_at "gw"
      have := W.s1
      have := W.s2
      refine g_div (divW (by omega) (by omega)) ?_
      exact q
    · exact ⟨_, _, _, _, _, rfl, W, .inr ⟨hb, q⟩⟩
def sp_law_cell_at (_ : Txt K mg) : Sp := fun vs H Q _ => ∃ (a : Addr) (ns : List Int) (k : Int), vs = [.ref a, .int k] ∧ SqL K H a (ns.map V.int) ∧ 0 ≤ k ∧ Q (.int (cellAt ns k)) H
theorem ok_law_cell_at (T : Txt K mg) : FnOk P w K mg base CX0 1 T.a_law_cell_at T.fd_law_cell_at ["_law_script", "_law_k"] (sp_law_cell_at T) := by
  refine T.F_law_cell_at.ok sc_law_cell_at (fun vs H Q E h => ?_) (fun cdv A outer s H vs Q E hr h => ?_)
  · obtain ⟨a, ns, k, rfl, _⟩ := h
    rfl
  · obtain ⟨a, ns, k, rfl, h⟩ := h
    refine ⟨_, pss_cons (ps_if (pt_cmpR op_lt (pv 1) (pe_callB call_len_seq (by rfl) T.z_len (by decide +kernel) (pa_cons (pv 0) pa_nil)) (nomark _))
  (pss_one (ps_ret (pe_ix ix_list (pv 0) (pv 1) (fun _ _ => rfl))))
  (pss_nil))
 (pss_one (ps_ret pe_int)), ?_⟩
    obtain ⟨hS, h0, q⟩ := h
    walk_at "go"
    refine ⟨a, _, rfl, .inl hS, ?_⟩
    walk_at "go"
    rw [List.length_map]
    refine g_dec (fun hk => ?_) (fun hk => ?_)
    · walk_at "go"
      have hl : k.toNat < ns.length := by omega
      have e : k = ((k.toNat : Nat) : Int) := by omega
      have e2 : atI (ns.map V.int) k = some (.int (cellAt ns k)) := by
        rw [e]
        refine atI_nat ?_
        unfold cellAt
        rw [List.getElem?_map, show ((k.toNat : Nat) : Int).toNat = k.toNat from by omega, List.getElem?_eq_getElem hl]
        rfl
      refine g_ixL hS e2 ?_
      exact q
    · walk_at "go"
      have e2 : cellAt ns k = 0 := by
        unfold cellAt
        rw [List.getElem?_eq_none (by omega)]
        rfl
      rw [e2] at q
      exact q
def sp_law_whole (_ : Txt K mg) : Sp := fun vs H Q _ => ∃ (v : V) (b : Bool), vs = [v] ∧ Kind K H v b ∧ Q (.bl b) H
theorem ok_law_whole (T : Txt K mg) : FnOk P w K mg base CX0 1 T.a_law_whole T.fd_law_whole ["_law_found"] (sp_law_whole T) := by
  refine T.F_law_whole.ok sc_law_whole (fun vs H Q E h => ?_) (fun cdv A outer s H vs Q E hr h => ?_)
  · obtain ⟨v, b, rfl, _⟩ := h
    rfl
  · obtain ⟨v, b, rfl, h⟩ := h
    refine ⟨_, pss_one (ps_ret (pe_and (pe_callB call_isi (by rfl) T.z_isinstance (by decide +kernel) (pa_cons (pv 0) (pa_cons (pe_bltn (v := .ty "int") (by rfl) T.z_int (by decide +kernel) rfl) pa_nil))) (pe_one (pe_not (pe_callB call_isi (by rfl) T.z_isinstance (by decide +kernel) (pa_cons (pv 0) (pa_cons (pe_bltn (v := .ty "bool") (by rfl) T.z_bool (by decide +kernel) rfl) pa_nil))))))), ?_⟩
    obtain ⟨⟨t, b1, b2, ty, k1, k2, rfl⟩, q⟩ := h
    walk_at "go"
    refine g_isi ty k1 ?_
    walk_at "go"
    cases b1 with
    | false => exact iteF q
    | true =>
      walk_at "go"
      refine g_isi ty k2 ?_
      walk_at "go"
      exact q
def sp_law_signed (_ : Txt K mg) : Sp := fun vs H Q _ => ∃ c : Int, vs = [.int c] ∧ ∀ r, -1000000000000000000000000000000000000000000000000000000000000 ≤ r → r ≤ 1000000000000000000000000000000000000000000000000000000000000 → Q (.int r) H
theorem ok_law_signed (T : Txt K mg) : FnOk P w K mg base CX0 1 T.a_law_signed T.fd_law_signed ["_law_cell"] (sp_law_signed T) := by
  refine T.F_law_signed.ok sc_law_signed (fun vs H Q E h => ?_) (fun cdv A outer s H vs Q E hr h => ?_)
  · obtain ⟨c, rfl, _⟩ := h
    rfl
  · obtain ⟨c, rfl, h⟩ := h
    refine ⟨_, pss_cons (ps_set (i := 1) sc_law_signed.nd rfl (.inl rfl) (pe_op op_mod (pe_op op_fdivW (pv 0) pe_int) (pe_ladd (pe_lpow (v := 1000000000000000000000000000000000000000000000000000000000000) (pe_int) (pe_int) (by decide) (by decide +kernel)) (pe_int) (v := 1000000000000000000000000000000000000000000000000000000000001) (by decide +kernel))))
 (pss_cons (ps_if (pt_cmpR op_eq (pe_op op_mod (pv 0) pe_int) pe_int (nomark _))
  (pss_one (ps_ret (pe_op op_sub pe_int (pv 1))))
  (pss_nil))
 (pss_one (ps_ret (pv 1)))), ?_⟩
    walk_at "go"
    refine g_div (divW (by decide) (by decide)) ?_
    walk_at "go"
    have h0 := Int.emod_nonneg (c / 2) (show (1000000000000000000000000000000000000000000000000000000000000 + 1 : Int) ≠ 0 by decide)
    have h1 := Int.emod_lt_of_pos (c / 2) (show (0 : Int) < 1000000000000000000000000000000000000000000000000000000000000 + 1 by decide)
    refine g_dec (fun hk => ?_) (fun hk => ?_)
    · walk_at "go"
      exact h _ (by omega) (by omega)
    · walk_at "go"
      exact h _ (by omega) (by omega)
def sp_law_kept (_ : Txt K mg) : Sp := fun vs H Q _ => ∃ f hd size : Int, vs = [.int f, .int hd, .int size] ∧ 0 ≤ f ∧ f < size ∧ (hd - f) % size = 0 ∧ Q (.bl true) H
theorem ok_law_kept (T : Txt K mg) : FnOk P w K mg base CX0 2 T.a_law_kept T.fd_law_kept ["_law_found", "_law_handed", "_law_size"] (sp_law_kept T) := by
  refine T.F_law_kept.ok sc_law_kept (fun vs H Q E h => ?_) (fun cdv A outer s H vs Q E hr h => ?_)
  · obtain ⟨f, hd, size, rfl, _⟩ := h
    rfl
  · obtain ⟨f, hd, size, rfl, h⟩ := h
    refine ⟨_, pss_one (ps_ret (pe_and (pe_call (ok_law_whole T) (hr.mono (by decide)) (by rfl) T.g_law_whole T.F_law_whole.kp T.b_law_whole .nil pass0 (pa_cons (pv 0) pa_nil)) (pe_and (pe_cmpR op_le pe_int (pv 0) (nomark _)) (pe_and (pe_cmpR op_lt (pv 0) (pv 2) (nomark _)) (pe_one (pe_cmpR op_eq (pe_op op_mod (pe_op op_sub (pv 1) (pv 0)) (pv 2)) pe_int (nomark _))))))), ?_⟩
    obtain ⟨h0, h1, h2, q⟩ := h
    walk_at "go"
    refine ⟨_, true, rfl, kind_int, ?_⟩
    walk_at "go"
    refine g_decT h0 ?_
    walk_at "go"
    refine g_decT h1 ?_
    walk_at "go"
    rw [h2]
    exact q
theorem kept_mod (a : Int) {m : Int} (h : 0 < m) : 0 ≤ a % m ∧ a % m < m ∧ (a - a % m) % m = 0 := by
  refine ⟨Int.emod_nonneg a (by omega), Int.emod_lt_of_pos a h, ?_⟩
  have e : a - a % m = m * (a / m) := by
    have := Int.emod_add_mul_ediv a m
    omega
  rw [e, Int.mul_emod_right]
def sp_law_fields (T : Txt K mg) : Sp := fun vs H Q _ => ∃ (p : Addr) (size step start : Int), vs = [.ref p, .int size, .int step, .int start] ∧ Whl T.C_Wheel H p size (step % size) (start % size) ∧ Q (.bl true) H
theorem ok_law_fields (T : Txt K mg) : FnOk P w K mg base CX0 3 T.a_law_fields T.fd_law_fields ["_law_wheel", "_law_size", "_law_step", "_law_start"] (sp_law_fields T) := by
  refine T.F_law_fields.ok sc_law_fields (fun vs H Q E h => ?_) (fun cdv A outer s H vs Q E hr h => ?_)
  · obtain ⟨p, size, step, start, rfl, _⟩ := h
    rfl
  · obtain ⟨p, size, step, start, rfl, h⟩ := h
    refine ⟨_, pss_cons (ps_if (PW.pt (pw_or (pt_not (pt_val (pe_call (ok_law_whole T) (hr.mono (by decide)) (by rfl) T.g_law_whole T.F_law_whole.kp T.b_law_whole .nil pass0 (pa_cons (pe_fld (pv 0) rfl) pa_nil)))) (pw_or1 (pt_cmpR op_ne (pe_fld (pv 0) rfl) (pv 1) (nomark _)))))
  (pss_one (ps_ret pe_bl))
  (pss_nil))
 (pss_one (ps_ret (pe_and (pe_call (ok_law_kept T) (hr.mono (by decide)) (by rfl) T.g_law_kept T.F_law_kept.kp T.b_law_kept .nil pass0 (pa_cons (pe_fld (pv 0) rfl) (pa_cons (pv 2) (pa_cons (pv 1) pa_nil)))) (pe_one (pe_call (ok_law_kept T) (hr.mono (by decide)) (by rfl) T.g_law_kept T.F_law_kept.kp T.b_law_kept .nil pass0 (pa_cons (pe_fld (pv 0) rfl) (pa_cons (pv 3) (pa_cons (pv 1) pa_nil)))))))), ?_⟩
    obtain ⟨W, q⟩ := h
    have s1 := W.s1
    have k1 := kept_mod step (show 0 < size by omega)
    have k2 := kept_mod start (show 0 < size by omega)
    walk_at "gw"
    refine ⟨_, true, rfl, kind_int, ?_⟩
    walk_at "gw"
    refine g_ndec (fun z => absurd rfl z) (fun _ => ?_)
    walk_at "gw"
    refine ⟨_, _, _, rfl, k1.1, k1.2.1, k1.2.2, ?_⟩
    walk_at "gw"
    exact ⟨_, _, _, rfl, k2.1, k2.2.1, k2.2.2, q⟩
def sp_law_stands (T : Txt K mg) : Sp := fun vs H Q _ => ∃ (p : Addr) (size step start beat number : Int), vs = [.ref p, .int size, .int beat, .int number] ∧ Whl T.C_Wheel H p size step start ∧ 0 ≤ beat ∧ beat ≤ 1000000000000000000000000000000000000000000000000000000000000 ∧ number = start + beat * step ∧ Q (.bl true) H
theorem ok_law_stands (T : Txt K mg) : FnOk P w K mg base CX0 5 T.a_law_stands T.fd_law_stands ["_law_wheel", "_law_size", "_law_beat", "_law_number"] (sp_law_stands T) := by
  refine T.F_law_stands.ok sc_law_stands (fun vs H Q E h => ?_) (fun cdv A outer s H vs Q E hr h => ?_)
  · obtain ⟨p, size, step, start, beat, number, rfl, _⟩ := h
    rfl
  · obtain ⟨p, size, step, start, beat, number, rfl, h⟩ := h
    refine ⟨_, pss_cons (ps_if (pt_cmpR op_eq (pe_op op_mod (pv 2) pe_int) pe_int (nomark _))
  (pss_cons (ps_set (i := 4) sc_law_stands.nd rfl (.inl rfl) (pe_meth (pv 0) T.c_Wheel T.m_Wheel_place (ok_Wheel_place T) (hr.mono (by decide)) T.b_Wheel_place .nil passL (pa_cons (pv 2) pa_nil)))
 (pss_one (ps_set (i := 5) sc_law_stands.nd rfl (.inl rfl) (pe_meth (pv 0) T.c_Wheel T.m_Wheel_turns (ok_Wheel_turns T) (hr.mono (by decide)) T.b_Wheel_turns .nil passL (pa_cons (pv 2) pa_nil)))))
  (pss_cons (ps_set (i := 5) sc_law_stands.nd rfl (.inl rfl) (pe_meth (pv 0) T.c_Wheel T.m_Wheel_turns (ok_Wheel_turns T) (hr.mono (by decide)) T.b_Wheel_turns .nil passL (pa_cons (pv 2) pa_nil)))
 (pss_one (ps_set (i := 4) sc_law_stands.nd rfl (.inl rfl) (pe_meth (pv 0) T.c_Wheel T.m_Wheel_place (ok_Wheel_place T) (hr.mono (by decide)) T.b_Wheel_place .nil passL (pa_cons (pv 2) pa_nil))))))
 (pss_cons (ps_if (PW.pt (pw_or (pt_not (pt_val (pe_call (ok_law_whole T) (hr.mono (by decide)) (by rfl) T.g_law_whole T.F_law_whole.kp T.b_law_whole .nil pass0 (pa_cons (pv 4) pa_nil)))) (pw_or1 (pt_not (pt_val (pe_call (ok_law_whole T) (hr.mono (by decide)) (by rfl) T.g_law_whole T.F_law_whole.kp T.b_law_whole .nil pass0 (pa_cons (pv 5) pa_nil)))))))
  (pss_one (ps_ret pe_bl))
  (pss_nil))
 (pss_one (ps_ret (pe_and (pe_cmpR op_le pe_int (pv 4) (nomark _)) (pe_and (pe_cmpR op_lt (pv 4) (pv 1) (nomark _)) (pe_one (pe_cmpR op_eq (pe_op op_add (pe_op op_mulB (pv 5) (pv 1)) (pv 4)) (pv 3) (nomark _)))))))), ?_⟩
    obtain ⟨W, h0, h1, rfl, q⟩ := h
    obtain ⟨dx, hp⟩ := id W.ob
    have s1 := W.s1
    have b1 := Int.emod_nonneg (start + beat * step) (show size ≠ 0 by omega)
    have b2 := Int.emod_lt_of_pos (start + beat * step) (show 0 < size by omega)
    have b3 := Int.emod_add_mul_ediv (start + beat * step) size
    have c1 : 0 ≤ (start + beat * step) / size := Int.ediv_nonneg (Int.add_nonneg W.a0 (Int.mul_nonneg h0 W.t0)) (by omega)
    have c2 : (start + beat * step) / size ≤ 1000000000000000000000000000000000000000000000000000000000000 := by
      have := W.s2
      have := W.t1
      have := W.a1
      have x1 : beat * step ≤ beat * (size - 1) := Int.mul_le_mul_of_nonneg_left (by omega) h0
      have x2 : start + beat * step < (beat + 1) * size := by grind
      have := Int.ediv_lt_of_lt_mul (show 0 < size by omega) x2
      omega
    walk_at "gw"
    refine g_dec (fun _ => ?_) (fun _ => ?_)
    all_goals
      walk_at "gw"
      refine ⟨p, dx, _, rfl, hp, wf_none _ _ _ _ (by decide +kernel), ?_⟩
      walk_at "gw"
      refine ⟨_, _, _, _, _, rfl, W, .inl ⟨_, rfl, h0, h1, ?_⟩⟩
      walk_at "gw"
      refine ⟨p, dx, _, rfl, hp, wf_none _ _ _ _ (by decide +kernel), ?_⟩
      walk_at "gw"
      refine ⟨_, _, _, _, _, rfl, W, .inl ⟨_, rfl, h0, h1, ?_⟩⟩
      walk_at "gw"
      refine ⟨_, true, rfl, kind_int, ?_⟩
      walk_at "gw"
      refine ⟨_, true, rfl, kind_int, ?_⟩
      walk_at "gw"
      refine g_decT b1 ?_
      walk_at "gw"
      refine g_decT b2 ?_
      walk_at "gw"
      have := W.s2
      refine g_mul (mulB (by omega) (by omega)) ?_
      walk_at "gw"
      rw [decide_eq_true (show (start + beat * step) / size * size + (start + beat * step) % size = start + beat * step by rw [Int.mul_comm]; omega)]
      exact q
theorem ok_law (T : Txt K mg) : FnOk P w K mg base CX0 6 T.a_law T.fd_law ["_law_script"] (sp_law K) := by
  refine T.F_law.ok sc_law (fun vs H Q E h => ?_) (fun cdv A outer s H vs Q E hr h => ?_)
  · obtain ⟨a, ns, rfl, _⟩ := h
    rfl
  · obtain ⟨a, ns, rfl, h⟩ := h
    refine ⟨_, pss_cons (ps_set (i := 1) sc_law.nd rfl (.inl rfl) (pe_op op_add pe_int (pe_op op_mod (pe_op op_fdivW (pe_call (ok_law_cell_at T) (hr.mono (by decide)) (by rfl) T.g_law_cell_at T.F_law_cell_at.kp T.b_law_cell_at .nil pass0 (pa_cons (pv 0) (pa_cons pe_int pa_nil))) pe_int) (pe_ix ix_list (pe_lst (pa_cons pe_int (pa_cons (pe_lpow (v := 1000000000000000000000000000000000000000000000000000000000000) (pe_int) (pe_int) (by decide) (by decide +kernel)) pa_nil))) (pe_op op_mod (pe_call (ok_law_cell_at T) (hr.mono (by decide)) (by rfl) T.g_law_cell_at T.F_law_cell_at.kp T.b_law_cell_at .nil pass0 (pa_cons (pv 0) (pa_cons pe_int pa_nil))) pe_int) (fun _ _ => rfl)))))
 (pss_cons (ps_set (i := 2) sc_law.nd rfl (.inl rfl) (pe_call (ok_law_signed T) (hr.mono (by decide)) (by rfl) T.g_law_signed T.F_law_signed.kp T.b_law_signed .nil pass0 (pa_cons (pe_call (ok_law_cell_at T) (hr.mono (by decide)) (by rfl) T.g_law_cell_at T.F_law_cell_at.kp T.b_law_cell_at .nil pass0 (pa_cons (pv 0) (pa_cons pe_int pa_nil))) pa_nil)))
 (pss_cons (ps_set (i := 3) sc_law.nd rfl (.inl rfl) (pe_call (ok_law_signed T) (hr.mono (by decide)) (by rfl) T.g_law_signed T.F_law_signed.kp T.b_law_signed .nil pass0 (pa_cons (pe_op op_fdivW (pe_call (ok_law_cell_at T) (hr.mono (by decide)) (by rfl) T.g_law_cell_at T.F_law_cell_at.kp T.b_law_cell_at .nil pass0 (pa_cons (pv 0) (pa_cons pe_int pa_nil))) pe_int) pa_nil)))
 (pss_cons (ps_set (i := 4) sc_law.nd rfl (.inl rfl) (pe_make T.M_Wheel (ok_Wheel_init T) (hr.mono (by decide)) (by rfl) T.g_Wheel T.b3_Wheel_init T.v3_Wheel_init passL (pa_cons (pv 1) (pa_cons (pv 2) (pa_cons (pv 3) pa_nil)))))
 (Evl.pss_cut (ps_if (pt_cmpR op_eq (pe_op op_mod (pe_call (ok_law_cell_at T) (hr.mono (by decide)) (by rfl) T.g_law_cell_at T.F_law_cell_at.kp T.b_law_cell_at .nil pass0 (pa_cons (pv 0) (pa_cons pe_int pa_nil))) pe_int) pe_int (nomark _))
  (pss_cons (ps_set (i := 3) sc_law.nd rfl (.inl rfl) pe_int)
 (pss_one (ps_set (i := 4) sc_law.nd rfl (.inl rfl) (pe_make T.M_Wheel (ok_Wheel_init T) (hr.mono (by decide)) (by rfl) T.g_Wheel T.b2_Wheel_init T.v2_Wheel_init passL (pa_cons (pv 1) (pa_cons (pv 2) pa_nil))))))
  (pss_nil))
 (pss_cons (ps_set (i := 5) sc_law.nd rfl (.inl rfl) (pe_make T.M_Wheel (ok_Wheel_init T) (hr.mono (by decide)) (by rfl) T.g_Wheel T.b3_Wheel_init T.v3_Wheel_init passL (pa_cons pe_int (pa_cons pe_int (pa_cons (pe_lneg (pe_int)) pa_nil)))))
 (pss_cons (ps_if (PW.pt (pw_or (pt_not (pt_val (pe_call (ok_law_fields T) (hr.mono (by decide)) (by rfl) T.g_law_fields T.F_law_fields.kp T.b_law_fields .nil pass0 (pa_cons (pv 4) (pa_cons (pv 1) (pa_cons (pv 2) (pa_cons (pv 3) pa_nil))))))) (pw_or1 (pt_not (pt_val (pe_call (ok_law_fields T) (hr.mono (by decide)) (by rfl) T.g_law_fields T.F_law_fields.kp T.b_law_fields .nil pass0 (pa_cons (pv 5) (pa_cons pe_int (pa_cons pe_int (pa_cons (pe_lneg (pe_int)) pa_nil))))))))))
  (pss_one (ps_ret pe_bl))
  (pss_nil))
 (pss_cons (ps_set (i := 6) sc_law.nd rfl (.inl rfl) (pe_op op_mod (pv 3) (pv 1)))
 (pss_cons (ps_set (i := 7) sc_law.nd rfl (.inl rfl) (pe_op op_mod (pv 2) (pv 1)))
 (pss_cons (ps_for PassesOwn.never rfl (pi_list (pe_op op_cat (pe_lst (pa_cons pe_int pa_nil)) (pe_lc (own := [("_law_cell", 9)]) rfl sc_law.nd (pi_list (pe_slice sl_list (pv 0) (po_some pe_int) (po_some pe_int))) (blkOk_by (N := N_law) (sc := defScope s_law) (by decide +kernel)) (fun _ _ _ _ _ => pg_name (i := 9) sc_law.nd rfl (.inl rfl)) (fun _ _ _ _ _ => pts_nil) (fun _ _ _ _ _ => (pe_op op_mod (pv 9) (pe_ladd (pe_lpow (v := 1000000000000000000000000000000000000000000000000000000000000) (pe_int) (pe_int) (by decide) (by decide +kernel)) (pe_int) (v := 1000000000000000000000000000000000000000000000000000000000001) (by decide +kernel))))))) (pg_name (i := 8) sc_law.nd rfl (.inl rfl)) (pss_cons (ps_if (pt_not (pt_val (pe_call (ok_law_stands T) (hr.mono (by decide)) (by rfl) T.g_law_stands T.F_law_stands.kp T.b_law_stands .nil pass0 (pa_cons (pv 4) (pa_cons (pv 1) (pa_cons (pv 8) (pa_cons (pe_op op_add (pv 6) (pe_op op_mulB (pv 8) (pv 7))) pa_nil)))))))
  (pss_one (ps_ret pe_bl))
  (pss_nil))
 (pss_one (ps_if (pt_not (pt_val (pe_call (ok_law_stands T) (hr.mono (by decide)) (by rfl) T.g_law_stands T.F_law_stands.kp T.b_law_stands .nil pass0 (pa_cons (pv 5) (pa_cons pe_int (pa_cons (pv 8) (pa_cons (pe_op op_add pe_int (pe_op op_mulB (pv 8) pe_int)) pa_nil)))))))
  (pss_one (ps_ret pe_bl))
  (pss_nil)))))
 (pss_one (ps_ret (pe_and (pe_call (ok_law_stands T) (hr.mono (by decide)) (by rfl) T.g_law_stands T.F_law_stands.kp T.b_law_stands .nil pass0 (pa_cons (pv 4) (pa_cons (pv 1) (pa_cons pe_int (pa_cons (pv 6) pa_nil))))) (pe_one (pe_call (ok_law_fields T) (hr.mono (by decide)) (by rfl) T.g_law_fields T.F_law_fields.kp T.b_law_fields .nil pass0 (pa_cons (pv 4) (pa_cons (pv 1) (pa_cons (pv 2) (pa_cons (pv 3) pa_nil)))))))))))))))))), ?_⟩
    obtain ⟨hS, hl, hb, q⟩ := h
    walk_at "gw"
    refine ⟨a, ns, 0, rfl, hS, by decide, ?_⟩
    walk_at "gw"
    refine g_div (divW (by decide) (by decide)) ?_
    walk_at "gw"
    refine g_len (by simp) fun pl nl => ?_
    have s1 : Same H (upd H pl (.lst [.int 40, .int 1000000000000000000000000000000000000000000000000000000000000])) := same_upd nl
    walk_at "gw"
    refine ⟨a, ns, 0, rfl, s1.seq hS, by decide, ?_⟩
    walk_at "gw"
    obtain ⟨m, hm, em⟩ := pick (xs := [40, 1000000000000000000000000000000000000000000000000000000000000]) (i := cellAt ns 0 % 2) (Int.emod_nonneg _ (by decide)) (Int.emod_lt_of_pos _ (by decide))
    have m1 : 1 ≤ m ∧ m ≤ 1000000000000000000000000000000000000000000000000000000000000 := by
      simp at hm
      omega
    refine g_ixL (SqL.of upd_same) em ?_
    refine g_mod (by omega) ?_
    walk_at "gw"
    have z0 := Int.emod_nonneg (cellAt ns 0 / 2) (show m ≠ 0 by omega)
    have z1 := Int.emod_lt_of_pos (cellAt ns 0 / 2) (show 0 < m by omega)
    generalize cellAt ns 0 / 2 % m = z at z0 z1
    generalize upd H pl (.lst [.int 40, .int 1000000000000000000000000000000000000000000000000000000000000]) = H1 at s1
    have hS1 := s1.seq hS
    walk_at "gw"
    refine ⟨a, ns, 1, rfl, hS1, by decide, ?_⟩
    walk_at "gw"
    refine ⟨_, rfl, fun st t0 t1 => ?_⟩
    walk_at "gw"
    refine ⟨a, ns, 2, rfl, hS1, by decide, ?_⟩
    walk_at "gw"
    refine g_div (divW (by decide) (by decide)) ?_
    walk_at "gw"
    refine ⟨_, rfl, fun sa a0 a1 => ?_⟩
    walk_at "gw"
    intro p dx np nd nep
    refine ⟨p, _, _, _, rfl, ⟨dx, upd_same⟩, .inl ⟨1 + z, st, sa, rfl, rfl, rfl, ⟨by omega, by omega⟩, ⟨t0, t1⟩, ⟨a0, a1⟩, fun H2 k2 W2 => ⟨rfl, ?_⟩⟩⟩
    have s2 : Same H H2 := s1.trans (Same.made np nd k2)
    walk_at "gw"
    -- the wheel, with a start or without
    refine g_cut (Mid := fun σ' H' => ∃ (p : Addr) (sa : Int), σ' = [some (.ref a), some (.int (1 + z)), some (.int st), some (.int sa), some (.ref p), none, none, none, none, none] ∧ Same H H' ∧ Whl T.C_Wheel H' p (1 + z) (st % (1 + z)) (sa % (1 + z))) ?_ ?_
    · walk_at "gw"
      refine ⟨a, ns, 2, rfl, s2.seq hS, by decide, ?_⟩
      walk_at "gw"
      refine g_dec (fun _ => ?_) (fun _ => ?_)
      · walk_at "gw"
        intro p' dx' np' nd' nep'
        refine ⟨p', _, _, _, rfl, ⟨dx', upd_same⟩, .inl ⟨1 + z, st, 0, rfl, rfl, rfl, ⟨by omega, by omega⟩, ⟨t0, t1⟩, ⟨by decide, by decide⟩, fun H3 k3 W3 => ⟨rfl, ?_⟩⟩⟩
        have s3 : Same H H3 := s2.trans (Same.made np' nd' k3)
        walk_at "gw"
        exact ⟨p', 0, rfl, s3, W3⟩
      · walk_at "gw"
        exact ⟨p, sa, rfl, s2, W2⟩
    · rintro σ' H3 ⟨p, sa, rfl, s3, W⟩
      clear k2 W2 s2
      walk_at "gw"
      intro p' dx' np' nd' nep'
      refine ⟨p', _, _, _, rfl, ⟨dx', upd_same⟩, .inl ⟨7, 3, -5, rfl, rfl, rfl, ⟨by decide, by decide⟩, ⟨by decide, by decide⟩, ⟨by decide, by decide⟩, fun H4 k4 B => ⟨rfl, ?_⟩⟩⟩
      have s34 : Same H3 H4 := Same.made np' nd' k4
      have s4 : Same H H4 := s3.trans s34
      have W4 := W.same s34
      walk_at "gw"
      refine ⟨_, _, _, _, rfl, W4, ?_⟩
      walk_at "gw"
      refine ⟨_, _, _, _, rfl, B, ?_⟩
      walk_at "gw"
      have h0 := W4.s1
      refine g_len (by simp) fun pz nz => ?_
      have s5 : Same H4 (upd H4 pz (.lst [.int 0])) := same_upd nz
      walk_at "gw"
      refine g_slL ((s4.trans s5).seq hS) fun pc nc => ?_
      rw [cut_map]
      have hcl := cut_len ns (some 3) (some 63)
      generalize cutN ns (some 3) (some 63) = cs at hcl
      have s6 := s5.trans (same_upd (o := .lst (cs.map V.int)) nc)
      have hz6 : (upd (upd H4 pz (.lst [.int 0])) pc (.lst (cs.map V.int))) pz = some (.lst [.int 0]) := same_upd nc _ _ upd_same
      have hc6 : SqL K (upd (upd H4 pz (.lst [.int 0])) pc (.lst (cs.map V.int))) pc (cs.map V.int) := SqL.of upd_same
      generalize upd (upd H4 pz (.lst [.int 0])) pc (.lst (cs.map V.int)) = H6 at s6 hz6 hc6
      refine g_compMap (fun c => c % (1000000000000000000000000000000000000000000000000000000000000 + 1)) hc6 (by omega) ?_ (fun c hc H' Q' _ k => ?_) (fun D nD H7 s7 hD => ?_)
      · intro x
        rfl
      · walk_at "gw"
        exact k H' (Same.refl H')
      · refine ⟨pz, D, _, _, rfl, rfl, s7 _ _ hz6, hD, ?_, fun pl2 nl2 => ?_⟩
        · rw [List.length_map, List.length_map]
          exact Nat.le_of_lt (small1000 (by simp; omega))
        · have s8 : Same H4 (upd H7 pl2 (.lst ([.int 0] ++ (cs.map fun c => c % (1000000000000000000000000000000000000000000000000000000000000 + 1)).map V.int))) := (s6.trans s7).trans (same_upd nl2)
          have W8 := W4.same s8
          have B8 := B.same s8
          refine g_overL (xs := (0 :: cs.map fun c => c % (1000000000000000000000000000000000000000000000000000000000000 + 1)).map V.int) (SqL.of upd_same) (fun i σ' H' => ∃ v9 v8, σ' = [some (.ref a), some (.int (1 + z)), some (.int st), some (.int sa), some (.ref p), some (.ref p'), some (.int (sa % (1 + z))), some (.int (st % (1 + z))), v8, v9] ∧ H' = upd H7 pl2 (.lst ([.int 0] ++ (cs.map fun c => c % (1000000000000000000000000000000000000000000000000000000000000 + 1)).map V.int))) ⟨_, _, rfl, rfl⟩ (fun i σ' H' _ h => ?_) ?_ ?_
          · obtain ⟨_, _, _, rfl⟩ := h
            exact SqL.of upd_same
          · rintro i x σ' H' hx ⟨v9, v8, rfl, rfl⟩
            obtain ⟨b, hb, rfl⟩ := map_at hx
            have b01 : 0 ≤ b ∧ b ≤ 1000000000000000000000000000000000000000000000000000000000000 := by
              have hm := List.mem_of_getElem? hb
              rw [List.mem_cons, List.mem_map] at hm
              rcases hm with rfl | ⟨c, _, rfl⟩
              · exact ⟨by decide, by decide⟩
              · have := Int.emod_nonneg c (show (1000000000000000000000000000000000000000000000000000000000000 + 1 : Int) ≠ 0 by decide)
                have := Int.emod_lt_of_pos c (show (0 : Int) < 1000000000000000000000000000000000000000000000000000000000000 + 1 by decide)
                omega
            walk_at "gw"
            have x1 := Int.emod_nonneg st (show 1 + z ≠ 0 by omega)
            have x2 := Int.emod_lt_of_pos st (show 0 < 1 + z by omega)
            refine g_mul (mulB (by omega) (by omega)) ?_
            walk_at "gw"
            refine ⟨p, _, _, _, b, _, rfl, W8, b01.1, b01.2, rfl, ?_⟩
            walk_at "gw"
            refine g_mul (mulB (by omega) (by omega)) ?_
            walk_at "gw"
            refine ⟨p', _, _, _, b, _, rfl, B8, b01.1, b01.2, rfl, ?_⟩
            walk_at "gw"
            exact ⟨_, _, rfl, rfl⟩
          · rintro σ' H' ⟨v9, v8, rfl, rfl⟩
            walk_at "gw"
            refine ⟨p, _, _, _, 0, _, rfl, W8, by decide, by decide, by omega, ?_⟩
            walk_at "gw"
            exact ⟨p, _, _, _, rfl, W8, q _⟩
end
theorem all_mk {l : PySem.W.OpenLaw} {w : World} {K : PySem.W.Frag} {h : Heap} {mg : Str → Option Value} {fa : Addr} (X : K.In h) (G : h.Ns mainGlobals mg) (hfa : mg "law" = some (.ref fa))
    {p_HandError : Addr}
    {p_NoWheel : Addr}
    {p_NoBeats : Addr}
    {p_Wheel : Addr}
    {p_is_whole : Addr} {od_is_whole an_is_whole : Option Addr} {sl_is_whole : Array (Option Value)} {oc_is_whole kV_is_whole dc_is_whole pm_is_whole cd_is_whole ct_is_whole : Value}
    {p_common : Addr} {od_common an_common : Option Addr} {sl_common : Array (Option Value)} {oc_common kV_common dc_common pm_common cd_common ct_common : Value}
    {p_need_beats : Addr} {od_need_beats an_need_beats : Option Addr} {sl_need_beats : Array (Option Value)} {oc_need_beats kV_need_beats dc_need_beats pm_need_beats cd_need_beats ct_need_beats : Value}
    {p_Wheel_init : Addr} {od_Wheel_init an_Wheel_init : Option Addr} {sl_Wheel_init : Array (Option Value)} {oc_Wheel_init kV_Wheel_init dc_Wheel_init pm_Wheel_init cd_Wheel_init ct_Wheel_init : Value}
    {pt_Wheel_init : Addr} {otd_Wheel_init : Option Addr} {otn_Wheel_init : Nat} {ots_Wheel_init : Array (Option Value)} {ott_Wheel_init : Tok}
    {p_Wheel_reached : Addr} {od_Wheel_reached an_Wheel_reached : Option Addr} {sl_Wheel_reached : Array (Option Value)} {oc_Wheel_reached kV_Wheel_reached dc_Wheel_reached pm_Wheel_reached cd_Wheel_reached ct_Wheel_reached : Value}
    {p_Wheel_place : Addr} {od_Wheel_place an_Wheel_place : Option Addr} {sl_Wheel_place : Array (Option Value)} {oc_Wheel_place kV_Wheel_place dc_Wheel_place pm_Wheel_place cd_Wheel_place ct_Wheel_place : Value}
    {p_Wheel_turns : Addr} {od_Wheel_turns an_Wheel_turns : Option Addr} {sl_Wheel_turns : Array (Option Value)} {oc_Wheel_turns kV_Wheel_turns dc_Wheel_turns pm_Wheel_turns cd_Wheel_turns ct_Wheel_turns : Value}
    {p_law_cell_at : Addr} {od_law_cell_at an_law_cell_at : Option Addr} {sl_law_cell_at : Array (Option Value)} {oc_law_cell_at kV_law_cell_at dc_law_cell_at pm_law_cell_at cd_law_cell_at ct_law_cell_at : Value}
    {p_law_whole : Addr} {od_law_whole an_law_whole : Option Addr} {sl_law_whole : Array (Option Value)} {oc_law_whole kV_law_whole dc_law_whole pm_law_whole cd_law_whole ct_law_whole : Value}
    {p_law_signed : Addr} {od_law_signed an_law_signed : Option Addr} {sl_law_signed : Array (Option Value)} {oc_law_signed kV_law_signed dc_law_signed pm_law_signed cd_law_signed ct_law_signed : Value}
    {p_law_kept : Addr} {od_law_kept an_law_kept : Option Addr} {sl_law_kept : Array (Option Value)} {oc_law_kept kV_law_kept dc_law_kept pm_law_kept cd_law_kept ct_law_kept : Value}
    {p_law_fields : Addr} {od_law_fields an_law_fields : Option Addr} {sl_law_fields : Array (Option Value)} {oc_law_fields kV_law_fields dc_law_fields pm_law_fields cd_law_fields ct_law_fields : Value}
    {p_law_stands : Addr} {od_law_stands an_law_stands : Option Addr} {sl_law_stands : Array (Option Value)} {oc_law_stands kV_law_stands dc_law_stands pm_law_stands cd_law_stands ct_law_stands : Value}
    {p_law : Addr} {od_law an_law : Option Addr} {sl_law : Array (Option Value)} {oc_law kV_law dc_law pm_law cd_law ct_law : Value}
    (a_HandError : PySem.W.nsIn K mainGlobals "HandError" = some (some (.ref p_HandError)))
    (a_NoWheel : PySem.W.nsIn K mainGlobals "NoWheel" = some (some (.ref p_NoWheel)))
    (x_NoWheel : PySem.W.excIn K p_NoWheel [.type "ValueError", .type "Exception", .type "BaseException", .type "object"] "ValueError.__new__" = true)
    (k_NoWheel : PySem.W.keepIn K (.ref p_NoWheel) = true)
    (eb_NoWheel : PySem.W.subIn K (.ref p_NoWheel) (.type "BaseException") = some true)
    (et_NoWheel : PySem.W.typeIn K (.ref p_NoWheel) = some (.type "type"))
    (a_NoBeats : PySem.W.nsIn K mainGlobals "NoBeats" = some (some (.ref p_NoBeats)))
    (x_NoBeats : PySem.W.excIn K p_NoBeats [.type "ValueError", .type "Exception", .type "BaseException", .type "object"] "ValueError.__new__" = true)
    (k_NoBeats : PySem.W.keepIn K (.ref p_NoBeats) = true)
    (eb_NoBeats : PySem.W.subIn K (.ref p_NoBeats) (.type "BaseException") = some true)
    (et_NoBeats : PySem.W.typeIn K (.ref p_NoBeats) = some (.type "type"))
    (a_Wheel : PySem.W.nsIn K mainGlobals "Wheel" = some (some (.ref p_Wheel)))
    (w_pg : PySem.W.plainGet K p_Wheel Str.empty = true)
    (w_hd : PySem.W.hasDictIn K p_Wheel = true)
    (w_po : PySem.W.plainOver K p_Wheel = true)
    (w_sa : PySem.W.findIn K (.ref p_Wheel) "__setattr__" = some (some (.builtin "object.__setattr__")))
    (w_mk : PySem.W.makesIn K p_Wheel = true)
    (w_kc : PySem.W.keepIn K (.ref p_Wheel) = true)
    (n_size : PySem.W.findIn K (.ref p_Wheel) "size" = some none)
    (n_step : PySem.W.findIn K (.ref p_Wheel) "step" = some none)
    (n_start : PySem.W.findIn K (.ref p_Wheel) "start" = some none)
    (n_lap : PySem.W.findIn K (.ref p_Wheel) "lap" = some none)
    (a_is_whole : PySem.W.nsIn K mainGlobals "is_whole" = some (some (.ref p_is_whole)))
    (l_is_whole : K.lookup p_is_whole = some ⟨oc_is_whole, od_is_whole, .func (PySem.W.fnOf "is_whole" "is_whole" (defArgs s_is_whole) (defBody s_is_whole) (defScope s_is_whole) .none kV_is_whole dc_is_whole pm_is_whole an_is_whole cd_is_whole ct_is_whole), sl_is_whole⟩)
    (c_is_whole : PySem.W.codeIn K cd_is_whole "is_whole" = true)
    (k_is_whole : PySem.W.keepIn K (.ref p_is_whole) = true)
    (a_common : PySem.W.nsIn K mainGlobals "common" = some (some (.ref p_common)))
    (l_common : K.lookup p_common = some ⟨oc_common, od_common, .func (PySem.W.fnOf "common" "common" (defArgs s_common) (defBody s_common) (defScope s_common) .none kV_common dc_common pm_common an_common cd_common ct_common), sl_common⟩)
    (c_common : PySem.W.codeIn K cd_common "common" = true)
    (k_common : PySem.W.keepIn K (.ref p_common) = true)
    (a_need_beats : PySem.W.nsIn K mainGlobals "need_beats" = some (some (.ref p_need_beats)))
    (l_need_beats : K.lookup p_need_beats = some ⟨oc_need_beats, od_need_beats, .func (PySem.W.fnOf "need_beats" "need_beats" (defArgs s_need_beats) (defBody s_need_beats) (defScope s_need_beats) .none kV_need_beats dc_need_beats pm_need_beats an_need_beats cd_need_beats ct_need_beats), sl_need_beats⟩)
    (c_need_beats : PySem.W.codeIn K cd_need_beats "need_beats" = true)
    (k_need_beats : PySem.W.keepIn K (.ref p_need_beats) = true)
    (a_Wheel_init : PySem.W.findIn K (.ref p_Wheel) "__init__" = some (some (.ref p_Wheel_init)))
    (l_Wheel_init : K.lookup p_Wheel_init = some ⟨oc_Wheel_init, od_Wheel_init, .func (PySem.W.fnOf "__init__" "Wheel.__init__" (defArgs s_Wheel_init) (defBody s_Wheel_init) (defScope s_Wheel_init) (.ref pt_Wheel_init) kV_Wheel_init dc_Wheel_init pm_Wheel_init an_Wheel_init cd_Wheel_init ct_Wheel_init), sl_Wheel_init⟩)
    (c_Wheel_init : PySem.W.codeIn K cd_Wheel_init "Wheel.__init__" = true)
    (k_Wheel_init : PySem.W.keepIn K (.ref p_Wheel_init) = true)
    (i_Wheel_init : PySem.W.isFn K (.ref p_Wheel_init) = true)
    (t_Wheel_init : K.lookup pt_Wheel_init = some ⟨.type "tuple", otd_Wheel_init, .seq [.int 0 ott_Wheel_init].toArray otn_Wheel_init, ots_Wheel_init⟩)
    (a_Wheel_reached : PySem.W.findIn K (.ref p_Wheel) "reached" = some (some (.ref p_Wheel_reached)))
    (l_Wheel_reached : K.lookup p_Wheel_reached = some ⟨oc_Wheel_reached, od_Wheel_reached, .func (PySem.W.fnOf "reached" "Wheel.reached" (defArgs s_Wheel_reached) (defBody s_Wheel_reached) (defScope s_Wheel_reached) .none kV_Wheel_reached dc_Wheel_reached pm_Wheel_reached an_Wheel_reached cd_Wheel_reached ct_Wheel_reached), sl_Wheel_reached⟩)
    (c_Wheel_reached : PySem.W.codeIn K cd_Wheel_reached "Wheel.reached" = true)
    (k_Wheel_reached : PySem.W.keepIn K (.ref p_Wheel_reached) = true)
    (i_Wheel_reached : PySem.W.isFn K (.ref p_Wheel_reached) = true)
    (a_Wheel_place : PySem.W.findIn K (.ref p_Wheel) "place" = some (some (.ref p_Wheel_place)))
    (l_Wheel_place : K.lookup p_Wheel_place = some ⟨oc_Wheel_place, od_Wheel_place, .func (PySem.W.fnOf "place" "Wheel.place" (defArgs s_Wheel_place) (defBody s_Wheel_place) (defScope s_Wheel_place) .none kV_Wheel_place dc_Wheel_place pm_Wheel_place an_Wheel_place cd_Wheel_place ct_Wheel_place), sl_Wheel_place⟩)
    (c_Wheel_place : PySem.W.codeIn K cd_Wheel_place "Wheel.place" = true)
    (k_Wheel_place : PySem.W.keepIn K (.ref p_Wheel_place) = true)
    (i_Wheel_place : PySem.W.isFn K (.ref p_Wheel_place) = true)
    (a_Wheel_turns : PySem.W.findIn K (.ref p_Wheel) "turns" = some (some (.ref p_Wheel_turns)))
    (l_Wheel_turns : K.lookup p_Wheel_turns = some ⟨oc_Wheel_turns, od_Wheel_turns, .func (PySem.W.fnOf "turns" "Wheel.turns" (defArgs s_Wheel_turns) (defBody s_Wheel_turns) (defScope s_Wheel_turns) .none kV_Wheel_turns dc_Wheel_turns pm_Wheel_turns an_Wheel_turns cd_Wheel_turns ct_Wheel_turns), sl_Wheel_turns⟩)
    (c_Wheel_turns : PySem.W.codeIn K cd_Wheel_turns "Wheel.turns" = true)
    (k_Wheel_turns : PySem.W.keepIn K (.ref p_Wheel_turns) = true)
    (i_Wheel_turns : PySem.W.isFn K (.ref p_Wheel_turns) = true)
    (a_law_cell_at : PySem.W.nsIn K mainGlobals "_law_cell_at" = some (some (.ref p_law_cell_at)))
    (l_law_cell_at : K.lookup p_law_cell_at = some ⟨oc_law_cell_at, od_law_cell_at, .func (PySem.W.fnOf "_law_cell_at" "_law_cell_at" (defArgs s_law_cell_at) (defBody s_law_cell_at) (defScope s_law_cell_at) .none kV_law_cell_at dc_law_cell_at pm_law_cell_at an_law_cell_at cd_law_cell_at ct_law_cell_at), sl_law_cell_at⟩)
    (c_law_cell_at : PySem.W.codeIn K cd_law_cell_at "_law_cell_at" = true)
    (k_law_cell_at : PySem.W.keepIn K (.ref p_law_cell_at) = true)
    (a_law_whole : PySem.W.nsIn K mainGlobals "_law_whole" = some (some (.ref p_law_whole)))
    (l_law_whole : K.lookup p_law_whole = some ⟨oc_law_whole, od_law_whole, .func (PySem.W.fnOf "_law_whole" "_law_whole" (defArgs s_law_whole) (defBody s_law_whole) (defScope s_law_whole) .none kV_law_whole dc_law_whole pm_law_whole an_law_whole cd_law_whole ct_law_whole), sl_law_whole⟩)
    (c_law_whole : PySem.W.codeIn K cd_law_whole "_law_whole" = true)
    (k_law_whole : PySem.W.keepIn K (.ref p_law_whole) = true)
    (a_law_signed : PySem.W.nsIn K mainGlobals "_law_signed" = some (some (.ref p_law_signed)))
    (l_law_signed : K.lookup p_law_signed = some ⟨oc_law_signed, od_law_signed, .func (PySem.W.fnOf "_law_signed" "_law_signed" (defArgs s_law_signed) (defBody s_law_signed) (defScope s_law_signed) .none kV_law_signed dc_law_signed pm_law_signed an_law_signed cd_law_signed ct_law_signed), sl_law_signed⟩)
    (c_law_signed : PySem.W.codeIn K cd_law_signed "_law_signed" = true)
    (k_law_signed : PySem.W.keepIn K (.ref p_law_signed) = true)
    (a_law_kept : PySem.W.nsIn K mainGlobals "_law_kept" = some (some (.ref p_law_kept)))
    (l_law_kept : K.lookup p_law_kept = some ⟨oc_law_kept, od_law_kept, .func (PySem.W.fnOf "_law_kept" "_law_kept" (defArgs s_law_kept) (defBody s_law_kept) (defScope s_law_kept) .none kV_law_kept dc_law_kept pm_law_kept an_law_kept cd_law_kept ct_law_kept), sl_law_kept⟩)
    (c_law_kept : PySem.W.codeIn K cd_law_kept "_law_kept" = true)
    (k_law_kept : PySem.W.keepIn K (.ref p_law_kept) = true)
    (a_law_fields : PySem.W.nsIn K mainGlobals "_law_fields" = some (some (.ref p_law_fields)))
    (l_law_fields : K.lookup p_law_fields = some ⟨oc_law_fields, od_law_fields, .func (PySem.W.fnOf "_law_fields" "_law_fields" (defArgs s_law_fields) (defBody s_law_fields) (defScope s_law_fields) .none kV_law_fields dc_law_fields pm_law_fields an_law_fields cd_law_fields ct_law_fields), sl_law_fields⟩)
    (c_law_fields : PySem.W.codeIn K cd_law_fields "_law_fields" = true)
    (k_law_fields : PySem.W.keepIn K (.ref p_law_fields) = true)
    (a_law_stands : PySem.W.nsIn K mainGlobals "_law_stands" = some (some (.ref p_law_stands)))
    (l_law_stands : K.lookup p_law_stands = some ⟨oc_law_stands, od_law_stands, .func (PySem.W.fnOf "_law_stands" "_law_stands" (defArgs s_law_stands) (defBody s_law_stands) (defScope s_law_stands) .none kV_law_stands dc_law_stands pm_law_stands an_law_stands cd_law_stands ct_law_stands), sl_law_stands⟩)
    (c_law_stands : PySem.W.codeIn K cd_law_stands "_law_stands" = true)
    (k_law_stands : PySem.W.keepIn K (.ref p_law_stands) = true)
    (a_law : PySem.W.nsIn K mainGlobals "law" = some (some (.ref p_law)))
    (l_law : K.lookup p_law = some ⟨oc_law, od_law, .func (PySem.W.fnOf "law" "law" (defArgs s_law) (defBody s_law) (defScope s_law) .none kV_law dc_law pm_law an_law cd_law ct_law), sl_law⟩)
    (c_law : PySem.W.codeIn K cd_law "law" = true)
    (k_law : PySem.W.keepIn K (.ref p_law) = true)
    (z_ValueError : PySem.W.nsIn K mainGlobals "ValueError" = some none)
    (z_isinstance : PySem.W.nsIn K mainGlobals "isinstance" = some none)
    (z_int : PySem.W.nsIn K mainGlobals "int" = some none)
    (z_len : PySem.W.nsIn K mainGlobals "len" = some none)
    (z_bool : PySem.W.nsIn K mainGlobals "bool" = some none)
    (z_abs : PySem.W.nsIn K mainGlobals "abs" = some none)
    : ∃ fd : FuncData, (∀ (s : Shared) (v : Value), BindsTo s fd ⟨[v], []⟩ [("_law_script", v)]) ∧ ∀ base : Heap, K.In base → base.Ns mainGlobals mg → FnOk l.prog w K mg base CX0 6 fa fd ["_law_script"] (sp_law K) := by
  have e := hfa.symm.trans (PySem.W.mg_of X G a_law)
  cases e
  have F_is_whole := fun_mk (st := s_is_whole) l_is_whole c_is_whole k_is_whole
  have b_is_whole := F_is_whole.binds (ps := ["thing"]) fun _ _ _ _ _ _ us hl => match us, hl with | [_], _ => rfl
  have F_common := fun_mk (st := s_common) l_common c_common k_common
  have b_common := F_common.binds (ps := ["one", "other"]) fun _ _ _ _ _ _ us hl => match us, hl with | [_, _], _ => rfl
  have F_need_beats := fun_mk (st := s_need_beats) l_need_beats c_need_beats k_need_beats
  have b_need_beats := F_need_beats.binds (ps := ["many", "least"]) fun _ _ _ _ _ _ us hl => match us, hl with | [_, _], _ => rfl
  have F_Wheel_init : FunD K "__init__" "Wheel.__init__" (defArgs s_Wheel_init) (defBody s_Wheel_init) (defScope s_Wheel_init) [.int 0] [] p_Wheel_init (PySem.W.fnOf "__init__" "Wheel.__init__" (defArgs s_Wheel_init) (defBody s_Wheel_init) (defScope s_Wheel_init) (.ref pt_Wheel_init) kV_Wheel_init dc_Wheel_init pm_Wheel_init an_Wheel_init cd_Wheel_init ct_Wheel_init) := ⟨⟨_, _, _, _, _, _, _, _, _, _, rfl, l_Wheel_init, c_Wheel_init, .inr ⟨List.cons_ne_nil _ _, pt_Wheel_init, _, [.int 0 ott_Wheel_init], otn_Wheel_init, rfl, t_Wheel_init, rfl, .cons ⟨_, rfl⟩ .nil⟩, .inl rfl⟩, k_Wheel_init⟩
  obtain ⟨d3_Wheel_init, v3_Wheel_init, b3_Wheel_init⟩ := F_Wheel_init.binds1 (ps := ["self", "size", "step", "start"]) 4 1 (by decide) rfl fun _ _ _ _ _ _ _ us its hu hi => match us, its, hu, hi with | [_, _, _, _], [_], _, _ => ⟨_, rfl, rfl⟩
  obtain ⟨d2_Wheel_init, v2_Wheel_init, b2_Wheel_init⟩ := F_Wheel_init.binds1 (ps := ["self", "size", "step", "start"]) 3 0 (by decide) rfl fun _ _ _ _ _ _ _ us its hu hi => match us, its, hu, hi with | [_, _, _], [_], _, _ => ⟨_, rfl, rfl⟩
  have F_Wheel_reached := fun_mk (st := s_Wheel_reached) l_Wheel_reached c_Wheel_reached k_Wheel_reached
  have b_Wheel_reached := F_Wheel_reached.binds (ps := ["self", "beat"]) fun _ _ _ _ _ _ us hl => match us, hl with | [_, _], _ => rfl
  have F_Wheel_place := fun_mk (st := s_Wheel_place) l_Wheel_place c_Wheel_place k_Wheel_place
  have b_Wheel_place := F_Wheel_place.binds (ps := ["self", "beat"]) fun _ _ _ _ _ _ us hl => match us, hl with | [_, _], _ => rfl
  have F_Wheel_turns := fun_mk (st := s_Wheel_turns) l_Wheel_turns c_Wheel_turns k_Wheel_turns
  have b_Wheel_turns := F_Wheel_turns.binds (ps := ["self", "beat"]) fun _ _ _ _ _ _ us hl => match us, hl with | [_, _], _ => rfl
  have F_law_cell_at := fun_mk (st := s_law_cell_at) l_law_cell_at c_law_cell_at k_law_cell_at
  have b_law_cell_at := F_law_cell_at.binds (ps := ["_law_script", "_law_k"]) fun _ _ _ _ _ _ us hl => match us, hl with | [_, _], _ => rfl
  have F_law_whole := fun_mk (st := s_law_whole) l_law_whole c_law_whole k_law_whole
  have b_law_whole := F_law_whole.binds (ps := ["_law_found"]) fun _ _ _ _ _ _ us hl => match us, hl with | [_], _ => rfl
  have F_law_signed := fun_mk (st := s_law_signed) l_law_signed c_law_signed k_law_signed
  have b_law_signed := F_law_signed.binds (ps := ["_law_cell"]) fun _ _ _ _ _ _ us hl => match us, hl with | [_], _ => rfl
  have F_law_kept := fun_mk (st := s_law_kept) l_law_kept c_law_kept k_law_kept
  have b_law_kept := F_law_kept.binds (ps := ["_law_found", "_law_handed", "_law_size"]) fun _ _ _ _ _ _ us hl => match us, hl with | [_, _, _], _ => rfl
  have F_law_fields := fun_mk (st := s_law_fields) l_law_fields c_law_fields k_law_fields
  have b_law_fields := F_law_fields.binds (ps := ["_law_wheel", "_law_size", "_law_step", "_law_start"]) fun _ _ _ _ _ _ us hl => match us, hl with | [_, _, _, _], _ => rfl
  have F_law_stands := fun_mk (st := s_law_stands) l_law_stands c_law_stands k_law_stands
  have b_law_stands := F_law_stands.binds (ps := ["_law_wheel", "_law_size", "_law_beat", "_law_number"]) fun _ _ _ _ _ _ us hl => match us, hl with | [_, _, _, _], _ => rfl
  have F_law := fun_mk (st := s_law) l_law c_law k_law
  have b_law := F_law.binds (ps := ["_law_script"]) fun _ _ _ _ _ _ us hl => match us, hl with | [_], _ => rfl
  let T : Txt K mg := {
    C_HandError := p_HandError,
    g_HandError := PySem.W.mg_of X G a_HandError,
    C_NoWheel := p_NoWheel,
    g_NoWheel := PySem.W.mg_of X G a_NoWheel,
    x_NoWheel := x_NoWheel,
    k_NoWheel := k_NoWheel,
    eb_NoWheel := eb_NoWheel,
    et_NoWheel := et_NoWheel,
    C_NoBeats := p_NoBeats,
    g_NoBeats := PySem.W.mg_of X G a_NoBeats,
    x_NoBeats := x_NoBeats,
    k_NoBeats := k_NoBeats,
    eb_NoBeats := eb_NoBeats,
    et_NoBeats := et_NoBeats,
    C_Wheel := p_Wheel,
    g_Wheel := PySem.W.mg_of X G a_Wheel,
    c_Wheel := ⟨w_pg, w_hd, w_po, w_sa⟩,
    n_size := n_size,
    n_step := n_step,
    n_start := n_start,
    n_lap := n_lap,
    a_is_whole := p_is_whole,
    fd_is_whole := PySem.W.fnOf "is_whole" "is_whole" (defArgs s_is_whole) (defBody s_is_whole) (defScope s_is_whole) .none kV_is_whole dc_is_whole pm_is_whole an_is_whole cd_is_whole ct_is_whole,
    F_is_whole := F_is_whole,
    b_is_whole := b_is_whole,
    g_is_whole := PySem.W.mg_of X G a_is_whole,
    a_common := p_common,
    fd_common := PySem.W.fnOf "common" "common" (defArgs s_common) (defBody s_common) (defScope s_common) .none kV_common dc_common pm_common an_common cd_common ct_common,
    F_common := F_common,
    b_common := b_common,
    g_common := PySem.W.mg_of X G a_common,
    a_need_beats := p_need_beats,
    fd_need_beats := PySem.W.fnOf "need_beats" "need_beats" (defArgs s_need_beats) (defBody s_need_beats) (defScope s_need_beats) .none kV_need_beats dc_need_beats pm_need_beats an_need_beats cd_need_beats ct_need_beats,
    F_need_beats := F_need_beats,
    b_need_beats := b_need_beats,
    g_need_beats := PySem.W.mg_of X G a_need_beats,
    a_Wheel_init := p_Wheel_init,
    fd_Wheel_init := PySem.W.fnOf "__init__" "Wheel.__init__" (defArgs s_Wheel_init) (defBody s_Wheel_init) (defScope s_Wheel_init) (.ref pt_Wheel_init) kV_Wheel_init dc_Wheel_init pm_Wheel_init an_Wheel_init cd_Wheel_init ct_Wheel_init,
    F_Wheel_init := F_Wheel_init,
    d3_Wheel_init := d3_Wheel_init,
    v3_Wheel_init := v3_Wheel_init,
    b3_Wheel_init := b3_Wheel_init,
    d2_Wheel_init := d2_Wheel_init,
    v2_Wheel_init := v2_Wheel_init,
    b2_Wheel_init := b2_Wheel_init,
    m_Wheel_init := ⟨a_Wheel_init, i_Wheel_init, k_Wheel_init⟩,
    M_Wheel := ⟨w_mk, a_Wheel_init, i_Wheel_init, w_kc⟩,
    a_Wheel_reached := p_Wheel_reached,
    fd_Wheel_reached := PySem.W.fnOf "reached" "Wheel.reached" (defArgs s_Wheel_reached) (defBody s_Wheel_reached) (defScope s_Wheel_reached) .none kV_Wheel_reached dc_Wheel_reached pm_Wheel_reached an_Wheel_reached cd_Wheel_reached ct_Wheel_reached,
    F_Wheel_reached := F_Wheel_reached,
    b_Wheel_reached := b_Wheel_reached,
    m_Wheel_reached := ⟨a_Wheel_reached, i_Wheel_reached, k_Wheel_reached⟩,
    a_Wheel_place := p_Wheel_place,
    fd_Wheel_place := PySem.W.fnOf "place" "Wheel.place" (defArgs s_Wheel_place) (defBody s_Wheel_place) (defScope s_Wheel_place) .none kV_Wheel_place dc_Wheel_place pm_Wheel_place an_Wheel_place cd_Wheel_place ct_Wheel_place,
    F_Wheel_place := F_Wheel_place,
    b_Wheel_place := b_Wheel_place,
    m_Wheel_place := ⟨a_Wheel_place, i_Wheel_place, k_Wheel_place⟩,
    a_Wheel_turns := p_Wheel_turns,
    fd_Wheel_turns := PySem.W.fnOf "turns" "Wheel.turns" (defArgs s_Wheel_turns) (defBody s_Wheel_turns) (defScope s_Wheel_turns) .none kV_Wheel_turns dc_Wheel_turns pm_Wheel_turns an_Wheel_turns cd_Wheel_turns ct_Wheel_turns,
    F_Wheel_turns := F_Wheel_turns,
    b_Wheel_turns := b_Wheel_turns,
    m_Wheel_turns := ⟨a_Wheel_turns, i_Wheel_turns, k_Wheel_turns⟩,
    a_law_cell_at := p_law_cell_at,
    fd_law_cell_at := PySem.W.fnOf "_law_cell_at" "_law_cell_at" (defArgs s_law_cell_at) (defBody s_law_cell_at) (defScope s_law_cell_at) .none kV_law_cell_at dc_law_cell_at pm_law_cell_at an_law_cell_at cd_law_cell_at ct_law_cell_at,
    F_law_cell_at := F_law_cell_at,
    b_law_cell_at := b_law_cell_at,
    g_law_cell_at := PySem.W.mg_of X G a_law_cell_at,
    a_law_whole := p_law_whole,
    fd_law_whole := PySem.W.fnOf "_law_whole" "_law_whole" (defArgs s_law_whole) (defBody s_law_whole) (defScope s_law_whole) .none kV_law_whole dc_law_whole pm_law_whole an_law_whole cd_law_whole ct_law_whole,
    F_law_whole := F_law_whole,
    b_law_whole := b_law_whole,
    g_law_whole := PySem.W.mg_of X G a_law_whole,
    a_law_signed := p_law_signed,
    fd_law_signed := PySem.W.fnOf "_law_signed" "_law_signed" (defArgs s_law_signed) (defBody s_law_signed) (defScope s_law_signed) .none kV_law_signed dc_law_signed pm_law_signed an_law_signed cd_law_signed ct_law_signed,
    F_law_signed := F_law_signed,
    b_law_signed := b_law_signed,
    g_law_signed := PySem.W.mg_of X G a_law_signed,
    a_law_kept := p_law_kept,
    fd_law_kept := PySem.W.fnOf "_law_kept" "_law_kept" (defArgs s_law_kept) (defBody s_law_kept) (defScope s_law_kept) .none kV_law_kept dc_law_kept pm_law_kept an_law_kept cd_law_kept ct_law_kept,
    F_law_kept := F_law_kept,
    b_law_kept := b_law_kept,
    g_law_kept := PySem.W.mg_of X G a_law_kept,
    a_law_fields := p_law_fields,
    fd_law_fields := PySem.W.fnOf "_law_fields" "_law_fields" (defArgs s_law_fields) (defBody s_law_fields) (defScope s_law_fields) .none kV_law_fields dc_law_fields pm_law_fields an_law_fields cd_law_fields ct_law_fields,
    F_law_fields := F_law_fields,
    b_law_fields := b_law_fields,
    g_law_fields := PySem.W.mg_of X G a_law_fields,
    a_law_stands := p_law_stands,
    fd_law_stands := PySem.W.fnOf "_law_stands" "_law_stands" (defArgs s_law_stands) (defBody s_law_stands) (defScope s_law_stands) .none kV_law_stands dc_law_stands pm_law_stands an_law_stands cd_law_stands ct_law_stands,
    F_law_stands := F_law_stands,
    b_law_stands := b_law_stands,
    g_law_stands := PySem.W.mg_of X G a_law_stands,
    a_law := fa,
    fd_law := PySem.W.fnOf "law" "law" (defArgs s_law) (defBody s_law) (defScope s_law) .none kV_law dc_law pm_law an_law cd_law ct_law,
    F_law := F_law,
    b_law := b_law,
    g_law := PySem.W.mg_of X G a_law,
    z_ValueError := PySem.W.mg_none_of X G z_ValueError,
    z_isinstance := PySem.W.mg_none_of X G z_isinstance,
    z_int := PySem.W.mg_none_of X G z_int,
    z_len := PySem.W.mg_none_of X G z_len,
    z_bool := PySem.W.mg_none_of X G z_bool,
    z_abs := PySem.W.mg_none_of X G z_abs }
  exact ⟨T.fd_law, fun s v => .of_eq rfl, fun base _ _ => ok_law T⟩
end Gh
open PySem PySem.W PyProof.Rows
set_option maxRecDepth 100000 in
set_option maxHeartbeats 0 in
theorem PySem.Challenge.cw_gaphand_k01_place_and_turns_holds : PySem.Challenge.rw_gaphand_k01_place_and_turns.Holds := by
  w_on; o_law; k_head; (case hw => w_witness2)
  k_fill
  refine L2.walk_ofB (l := PySem.Challenge.rw_gaphand_k01_place_and_turns) (n := 63) (k := 6) (x := "_law_script") (CX := fun _ => L2.CX0) (sp := fun w => Gh.sp_law _) rfl (by decide) rfl ⟨rfl, by decide, by decide⟩ (fun w h Y => PySem.W.kIn_of Y) ?F (fun _ _ a ns hl hb _ hS => ⟨a, ns, rfl, hS, hl, hb, fun _ => rfl⟩) (fun _ _ _ _ _ h => h)
  case F =>
    intro w mg fa h KX G hmg
    refine' Gh.all_mk KX G hmg ?a_HandError ?a_NoWheel ?x_NoWheel ?k_NoWheel ?eb_NoWheel ?et_NoWheel ?a_NoBeats ?x_NoBeats ?k_NoBeats ?eb_NoBeats ?et_NoBeats ?a_Wheel ?w_pg ?w_hd ?w_po ?w_sa ?w_mk ?w_kc ?n_size ?n_step ?n_start ?n_lap ?a_is_whole ?l_is_whole ?c_is_whole ?k_is_whole ?a_common ?l_common ?c_common ?k_common ?a_need_beats ?l_need_beats ?c_need_beats ?k_need_beats ?a_Wheel_init ?l_Wheel_init ?c_Wheel_init ?k_Wheel_init ?i_Wheel_init ?t_Wheel_init ?a_Wheel_reached ?l_Wheel_reached ?c_Wheel_reached ?k_Wheel_reached ?i_Wheel_reached ?a_Wheel_place ?l_Wheel_place ?c_Wheel_place ?k_Wheel_place ?i_Wheel_place ?a_Wheel_turns ?l_Wheel_turns ?c_Wheel_turns ?k_Wheel_turns ?i_Wheel_turns ?a_law_cell_at ?l_law_cell_at ?c_law_cell_at ?k_law_cell_at ?a_law_whole ?l_law_whole ?c_law_whole ?k_law_whole ?a_law_signed ?l_law_signed ?c_law_signed ?k_law_signed ?a_law_kept ?l_law_kept ?c_law_kept ?k_law_kept ?a_law_fields ?l_law_fields ?c_law_fields ?k_law_fields ?a_law_stands ?l_law_stands ?c_law_stands ?k_law_stands ?a_law ?l_law ?c_law ?k_law ?z_ValueError ?z_isinstance ?z_int ?z_len ?z_bool ?z_abs
    (case a_HandError => k_is)
    (case a_NoWheel => k_is)
    (case x_NoWheel => k_exc)
    (case k_NoWheel => k_is)
    (case eb_NoWheel => k_is)
    (case et_NoWheel => k_is)
    (case a_NoBeats => k_is)
    (case x_NoBeats => k_exc)
    (case k_NoBeats => k_is)
    (case eb_NoBeats => k_is)
    (case et_NoBeats => k_is)
    (case a_Wheel => k_is)
    (case w_pg => k_is)
    (case w_hd => k_is)
    (case w_po => k_is)
    (case w_sa => k_is)
    (case w_mk => k_is)
    (case w_kc => k_is)
    (case n_size => k_is)
    (case n_step => k_is)
    (case n_start => k_is)
    (case n_lap => k_is)
    (case a_is_whole => k_is)
    (case l_is_whole => k_is)
    (case c_is_whole => k_is)
    (case k_is_whole => k_is)
    (case a_common => k_is)
    (case l_common => k_is)
    (case c_common => k_is)
    (case k_common => k_is)
    (case a_need_beats => k_is)
    (case l_need_beats => k_is)
    (case c_need_beats => k_is)
    (case k_need_beats => k_is)
    (case a_Wheel_init => k_is)
    (case l_Wheel_init => k_is)
    (case c_Wheel_init => k_is)
    (case k_Wheel_init => k_is)
    (case i_Wheel_init => k_is)
    (case t_Wheel_init => k_is)
    (case a_Wheel_reached => k_is)
    (case l_Wheel_reached => k_is)
    (case c_Wheel_reached => k_is)
    (case k_Wheel_reached => k_is)
    (case i_Wheel_reached => k_is)
    (case a_Wheel_place => k_is)
    (case l_Wheel_place => k_is)
    (case c_Wheel_place => k_is)
    (case k_Wheel_place => k_is)
    (case i_Wheel_place => k_is)
    (case a_Wheel_turns => k_is)
    (case l_Wheel_turns => k_is)
    (case c_Wheel_turns => k_is)
    (case k_Wheel_turns => k_is)
    (case i_Wheel_turns => k_is)
    (case a_law_cell_at => k_is)
    (case l_law_cell_at => k_is)
    (case c_law_cell_at => k_is)
    (case k_law_cell_at => k_is)
    (case a_law_whole => k_is)
    (case l_law_whole => k_is)
    (case c_law_whole => k_is)
    (case k_law_whole => k_is)
    (case a_law_signed => k_is)
    (case l_law_signed => k_is)
    (case c_law_signed => k_is)
    (case k_law_signed => k_is)
    (case a_law_kept => k_is)
    (case l_law_kept => k_is)
    (case c_law_kept => k_is)
    (case k_law_kept => k_is)
    (case a_law_fields => k_is)
    (case l_law_fields => k_is)
    (case c_law_fields => k_is)
    (case k_law_fields => k_is)
    (case a_law_stands => k_is)
    (case l_law_stands => k_is)
    (case c_law_stands => k_is)
    (case k_law_stands => k_is)
    (case a_law => k_is)
    (case l_law => k_is)
    (case c_law => k_is)
    (case k_law => k_is)
    (case z_ValueError => k_is)
    (case z_isinstance => k_is)
    (case z_int => k_is)
    (case z_len => k_is)
    (case z_bool => k_is)
    (case z_abs => k_is)
