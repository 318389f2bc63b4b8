import PyProof.Rows.All
import Wide.All
import OpenK.AllK
import Wide.FinOn
import HandS.ForMost
import HandS.Wide
import HandS.WideBits
import HandS.IsInst
import HandS.SortKw
import HandS.StrMore
import HandS.DictComp
import HandS.Flow
import HandS.Strs
import HandS.ListItems
import HandS.Zip
import HandS.Conv
import HandS.Lambda
import HandS.Walk
import HandS.More
import HandS.SortInts
import KE.KMinKey
import HandS.Style
import HandS.Text
import KE.KStateDown
import HandS.Defaults
import HandS.HeadHook4
import HandS.HeadWalk
import HandS.Head2
import PySem.Challenge.RW_hourscales_k98_whole_rows_of_all_totals
set_option Elab.async false
set_option linter.all false
/-! Q1: polynomials over the field of two, as numbers: their products. -/
namespace PU
/-- the sum of the shifted a by the first k bits of b -/
def mulF (a b : Nat) : Nat → Nat
  | 0 => 0
  | k + 1 => mulF a b k ^^^ (if b.testBit k then a <<< k else 0)
theorem xor4 (a b c d : Nat) : (a ^^^ b) ^^^ (c ^^^ d) = (a ^^^ c) ^^^ (b ^^^ d) := by
  rw [Nat.xor_assoc, ← Nat.xor_assoc b, Nat.xor_comm b c, Nat.xor_assoc c, ← Nat.xor_assoc]
theorem mulF_xor_right (a b c : Nat) : ∀ k, mulF a (b ^^^ c) k = mulF a b k ^^^ mulF a c k
  | 0 => by simp [mulF]
  | k + 1 => by
    simp only [mulF, mulF_xor_right a b c k, Nat.testBit_xor]
    rw [xor4]
    cases b.testBit k <;> cases c.testBit k <;> simp
theorem mulF_xor_left (a b c : Nat) : ∀ k, mulF (a ^^^ b) c k = mulF a c k ^^^ mulF b c k
  | 0 => by simp [mulF]
  | k + 1 => by
    simp only [mulF, mulF_xor_left a b c k]
    rw [xor4]
    cases c.testBit k <;> simp [Nat.shiftLeft_xor_distrib]
theorem mulF_zero_left (c : Nat) : ∀ k, mulF 0 c k = 0
  | 0 => rfl
  | k + 1 => by simp [mulF, mulF_zero_left c k]
theorem mulF_zero_right (c : Nat) : ∀ k, mulF c 0 k = 0
  | 0 => rfl
  | k + 1 => by simp [mulF, mulF_zero_right c k]
/-- only the first k bits count -/
theorem mulF_mod (a b : Nat) : ∀ k j, j ≤ k → mulF a (b % 2 ^ k) j = mulF a b j
  | k, 0, _ => rfl
  | k, j + 1, h => by
    simp only [mulF, mulF_mod a b k j (by omega), Nat.testBit_mod_two_pow]
    rw [show (decide (j < k)) = true from decide_eq_true (by omega), Bool.true_and]
theorem mulF_more (a b k : Nat) (h : b < 2 ^ k) : ∀ j, mulF a b (k + j) = mulF a b k
  | 0 => rfl
  | j + 1 => by
    rw [← Nat.add_assoc]
    simp only [mulF, mulF_more a b k h j]
    rw [Nat.testBit_lt_two_pow (Nat.lt_of_lt_of_le h (Nat.pow_le_pow_right (by decide) (by omega)))]
    simp
theorem mulF_enough (a b j k : Nat) (h : b < 2 ^ j) (h2 : b < 2 ^ k) : mulF a b j = mulF a b k := by
  rcases Nat.le_total j k with l | l
  · obtain ⟨d, rfl⟩ := Nat.le.dest l; exact (mulF_more a b j h d).symm
  · obtain ⟨d, rfl⟩ := Nat.le.dest l; exact mulF_more a b k h2 d
/-- a power of two times b -/
theorem mulF_pow_left (m b : Nat) : ∀ k, mulF (2 ^ m) b k = (b % 2 ^ k) <<< m
  | 0 => by simp [mulF, Nat.mod_one]
  | k + 1 => by
    simp only [mulF, mulF_pow_left m b k]
    apply Nat.eq_of_testBit_eq
    intro i
    simp only [Nat.testBit_xor, Nat.testBit_shiftLeft, Nat.testBit_mod_two_pow]
    by_cases hb : b.testBit k = true
    · rw [if_pos hb, Nat.testBit_shiftLeft, Nat.testBit_two_pow]
      rw [show (decide (i ≥ k) && decide (m = i - k)) = (decide (i ≥ m) && decide (i - m = k)) from by
        rw [Bool.eq_iff_iff]; simp only [Bool.and_eq_true, decide_eq_true_eq]; omega]
      by_cases h1 : m ≤ i
      · rw [decide_eq_true (show i ≥ m from h1), Bool.true_and, Bool.true_and, Bool.true_and]
        by_cases h2 : i - m = k
        · rw [h2, hb, decide_eq_false (Nat.lt_irrefl k), decide_eq_true (Nat.lt_succ_self k), decide_eq_true rfl]; rfl
        · rw [decide_eq_false h2, Bool.xor_false]
          by_cases h3 : i - m < k
          · rw [decide_eq_true h3, decide_eq_true (show i - m < k + 1 by omega)]
          · rw [decide_eq_false h3, decide_eq_false (show ¬ (i - m < k + 1) by omega)]
      · rw [decide_eq_false (show ¬ (i ≥ m) from h1)]; rfl
    · rw [if_neg hb, Nat.zero_testBit, Bool.xor_false]
      by_cases h2 : i - m = k
      · rw [h2]; simp at hb; simp [hb]
      · by_cases h3 : i - m < k
        · simp [h3, show i - m < k + 1 by omega]
        · simp [h3, show ¬ (i - m < k + 1) by omega]
theorem split_top (a m : Nat) (h : a < 2 ^ (m + 1)) : a = (a % 2 ^ m) ^^^ (if a.testBit m then 2 ^ m else 0) := by
  apply Nat.eq_of_testBit_eq
  intro i
  rw [Nat.testBit_xor, Nat.testBit_mod_two_pow]
  rcases Nat.lt_trichotomy i m with l | l | l
  · rw [show decide (i < m) = true from decide_eq_true l, Bool.true_and]
    split
    · rw [Nat.testBit_two_pow, show decide (m = i) = false from decide_eq_false (by omega), Bool.xor_false]
    · rw [Nat.zero_testBit, Bool.xor_false]
  · subst l
    simp only [Nat.lt_irrefl, decide_false, Bool.false_and, Bool.false_xor]
    cases e : a.testBit i <;> simp
  · rw [show decide (i < m) = false from decide_eq_false (by omega), Bool.false_and, Bool.false_xor, Nat.testBit_lt_two_pow (Nat.lt_of_lt_of_le h (Nat.pow_le_pow_right (by decide) (by omega)))]
    split
    · rw [Nat.testBit_two_pow, decide_eq_false (by omega)]
    · rw [Nat.zero_testBit]
theorem mulF_comm (b k : Nat) (hb : b < 2 ^ k) : ∀ m a, a < 2 ^ m → mulF a b k = mulF b a m
  | 0, a, h => by
    have : a = 0 := by simpa using h
    subst this
    rw [mulF_zero_left]; rfl
  | m + 1, a, h => by
    have ih := mulF_comm b k hb m (a % 2 ^ m) (Nat.mod_lt _ (Nat.two_pow_pos m))
    rw [mulF_mod b a m m (Nat.le_refl m)] at ih
    conv => lhs; rw [split_top a m h]
    rw [mulF_xor_left, ih]
    simp only [mulF]
    congr 1
    cases e : a.testBit m
    · simp [mulF_zero_left]
    · simp only [if_true]
      rw [mulF_pow_left, Nat.mod_eq_of_lt hb]
theorem mulF_shift (a b m : Nat) : ∀ k, mulF (a <<< m) b k = (mulF a b k) <<< m
  | 0 => by simp [mulF]
  | k + 1 => by
    simp only [mulF, mulF_shift a b m k, Nat.shiftLeft_xor_distrib]
    congr 1
    split
    · rw [← Nat.shiftLeft_add, ← Nat.shiftLeft_add, Nat.add_comm]
    · simp
/-- how many bits -/
def bl (n : Nat) : Nat := if n = 0 then 0 else n.log2 + 1
theorem lt_bl (n : Nat) : n < 2 ^ bl n := by
  unfold bl
  split
  · subst_vars; decide
  · exact Nat.lt_log2_self
theorem bl_le {n k : Nat} (h : n < 2 ^ k) : bl n ≤ k := by
  unfold bl
  split
  · omega
  · rename_i z
    have := Nat.log2_lt z |>.mpr h
    omega
theorem bl_of {n k : Nat} (h1 : 2 ^ k ≤ n) (h2 : n < 2 ^ (k + 1)) : bl n = k + 1 := by
  have := bl_le h2
  rcases Nat.lt_or_ge (bl n) (k + 1) with h | h
  · have := lt_bl n
    have := Nat.pow_le_pow_right (show 0 < 2 by decide) (show bl n ≤ k by omega)
    omega
  · omega
/-- the product -/
def clm (a b : Nat) : Nat := mulF a b (bl b)
theorem clm_eq (a b : Nat) {k : Nat} (h : b < 2 ^ k) : clm a b = mulF a b k := mulF_enough a b _ _ (lt_bl b) h
theorem clm_comm (a b : Nat) : clm a b = clm b a := mulF_comm b (bl b) (lt_bl b) (bl a) a (lt_bl a)
theorem xor_lt2 {a b k : Nat} (h1 : a < 2 ^ k) (h2 : b < 2 ^ k) : a ^^^ b < 2 ^ k := Nat.xor_lt_two_pow h1 h2
theorem clm_xor_left (a b c : Nat) : clm (a ^^^ b) c = clm a c ^^^ clm b c := mulF_xor_left a b c _
theorem clm_xor_right (a b c : Nat) : clm a (b ^^^ c) = clm a b ^^^ clm a c := by
  rw [clm_comm, clm_xor_left, clm_comm b, clm_comm c]
theorem clm_shift_left (a b m : Nat) : clm (a <<< m) b = (clm a b) <<< m := mulF_shift a b m _
theorem clm_shift_right (a b m : Nat) : clm a (b <<< m) = (clm a b) <<< m := by rw [clm_comm, clm_shift_left, clm_comm]
theorem clm_zero_right (a : Nat) : clm a 0 = 0 := rfl
theorem clm_zero_left (a : Nat) : clm 0 a = 0 := mulF_zero_left _ _
theorem clm_one_right (a : Nat) : clm a 1 = a := by
  show mulF a 1 (bl 1) = a
  have : bl 1 = 1 := rfl
  rw [this]
  simp [mulF]
theorem clm_one_left (a : Nat) : clm 1 a = a := by rw [clm_comm, clm_one_right]
theorem clm_assoc_aux (a b c : Nat) : ∀ k, clm a (mulF b c k) = mulF (clm a b) c k
  | 0 => rfl
  | k + 1 => by
    simp only [mulF, clm_xor_right, clm_assoc_aux a b c k]
    congr 1
    split
    · rw [clm_shift_right]
    · rfl
theorem clm_assoc (a b c : Nat) : clm (clm a b) c = clm a (clm b c) := (clm_assoc_aux a b c _).symm
/-- a polynomial over the field of two -/
structure Pol where
  val : Nat
deriving DecidableEq
namespace Pol
theorem ext {a b : Pol} (h : a.val = b.val) : a = b := by cases a; cases b; cases h; rfl
instance : Add Pol := ⟨fun a b => ⟨a.val ^^^ b.val⟩⟩
instance : Sub Pol := ⟨fun a b => ⟨a.val ^^^ b.val⟩⟩
instance : Neg Pol := ⟨fun a => a⟩
instance : Mul Pol := ⟨fun a b => ⟨clm a.val b.val⟩⟩
def nat (n : Nat) : Pol := ⟨n % 2⟩
instance : NatCast Pol := ⟨nat⟩
instance (n : Nat) : OfNat Pol n := ⟨nat n⟩
instance : IntCast Pol := ⟨fun i => nat i.natAbs⟩
def npow (a : Pol) : Nat → Pol
  | 0 => 1
  | n + 1 => npow a n * a
instance : HPow Pol Nat Pol := ⟨npow⟩
instance : SMul Nat Pol := ⟨fun n a => nat n * a⟩
instance : SMul Int Pol := ⟨fun n a => nat n.natAbs * a⟩
theorem add_val (a b : Pol) : (a + b).val = a.val ^^^ b.val := rfl
theorem sub_val (a b : Pol) : (a - b).val = a.val ^^^ b.val := rfl
theorem neg_val (a : Pol) : (-a).val = a.val := rfl
theorem mul_val (a b : Pol) : (a * b).val = clm a.val b.val := rfl
theorem zero_val : (0 : Pol).val = 0 := rfl
theorem one_val : (1 : Pol).val = 1 := rfl
theorem nat_succ (n : Nat) : nat (n + 1) = nat n + 1 := by
  apply ext
  rw [add_val, one_val]
  show (n + 1) % 2 = (n % 2) ^^^ 1
  rcases Nat.mod_two_eq_zero_or_one n with h | h
  · rw [h, show (n + 1) % 2 = 1 by omega]; rfl
  · rw [h, show (n + 1) % 2 = 0 by omega]; rfl
instance : Lean.Grind.CommRing Pol where
  nsmul := ⟨fun n a => nat n * a⟩
  zsmul := ⟨fun n a => nat n.natAbs * a⟩
  npow := ⟨npow⟩
  add_zero a := ext (by rw [add_val, zero_val, Nat.xor_zero])
  add_comm a b := ext (by rw [add_val, add_val, Nat.xor_comm])
  add_assoc a b c := ext (by simp only [add_val, Nat.xor_assoc])
  mul_assoc a b c := ext (by simp only [mul_val, clm_assoc])
  mul_comm a b := ext (by rw [mul_val, mul_val, clm_comm])
  mul_one a := ext (by rw [mul_val, one_val, clm_one_right])
  one_mul a := ext (by rw [mul_val, one_val, clm_one_left])
  left_distrib a b c := ext (by simp only [add_val, mul_val, clm_xor_right])
  right_distrib a b c := ext (by simp only [add_val, mul_val, clm_xor_left])
  zero_mul a := ext (by rw [mul_val, zero_val, clm_zero_left])
  mul_zero a := ext (by rw [mul_val, zero_val, clm_zero_right])
  pow_zero a := rfl
  pow_succ a n := rfl
  ofNat_succ n := nat_succ n
  ofNat_eq_natCast n := rfl
  nsmul_eq_natCast_mul n a := rfl
  neg_add_cancel a := ext (by rw [add_val, neg_val, Nat.xor_self]; rfl)
  sub_eq_add_neg a b := ext rfl
  neg_zsmul i a := by
    show nat (-i).natAbs * a = -(nat i.natAbs * a)
    rw [Int.natAbs_neg]; rfl
  zsmul_natCast_eq_nsmul n a := rfl
  intCast_ofNat n := rfl
  intCast_neg i := by
    show nat (-i).natAbs = - nat i.natAbs
    rw [Int.natAbs_neg]; rfl
end Pol
end PU
set_option Elab.async false
set_option linter.all false
/-! Q2: division of polynomials over two. -/
namespace PU
theorem bl_zero : bl 0 = 0 := rfl
theorem bl_pos {n : Nat} (h : 0 < n) : 0 < bl n := by
  unfold bl; rw [if_neg (by omega)]; omega
theorem two_bl_le {n : Nat} (h : 0 < n) : 2 ^ (bl n - 1) ≤ n := by
  unfold bl
  rw [if_neg (by omega)]
  exact Nat.log2_self_le (by omega)
theorem bl_top {n : Nat} (h : 0 < n) : n.testBit (bl n - 1) = true := by
  rw [Nat.testBit, Nat.shiftRight_eq_div_pow]
  have h1 := two_bl_le h
  have h2 := lt_bl n
  have h3 : n / 2 ^ (bl n - 1) = 1 := by
    have e : 2 ^ bl n = 2 * 2 ^ (bl n - 1) := by
      have := bl_pos h
      conv => lhs; rw [show bl n = (bl n - 1) + 1 by omega]
      rw [Nat.pow_succ]; omega
    have hp := Nat.two_pow_pos (bl n - 1)
    apply Nat.div_eq_of_lt_le <;> omega
  rw [h3]; rfl
theorem lt_of_bits {n k : Nat} (h : ∀ i, k ≤ i → n.testBit i = false) : n < 2 ^ k := Nat.lt_pow_two_of_testBit _ fun i hi => h i hi
theorem bl_le_of_bits {n k : Nat} (h : ∀ i, k ≤ i → n.testBit i = false) : bl n ≤ k := bl_le (lt_of_bits h)
theorem bit_over {n i : Nat} (h : bl n ≤ i) : n.testBit i = false := Nat.testBit_lt_two_pow (Nat.lt_of_lt_of_le (lt_bl n) (Nat.pow_le_pow_right (by decide) h))
theorem bl_of_bit {n i : Nat} (h : n.testBit i = true) : i < bl n := by
  rcases Nat.lt_or_ge i (bl n) with l | l
  · exact l
  · rw [bit_over l] at h; cases h
theorem bl_shift {n : Nat} (h : 0 < n) (p : Nat) : bl (n <<< p) = bl n + p := by
  have hp := bl_pos h
  have h1 : bl (n <<< p) ≤ bl n + p := bl_le_of_bits fun i hi => by
    rw [Nat.testBit_shiftLeft, bit_over (show bl n ≤ i - p by omega), Bool.and_false]
  have h2 : bl n - 1 + p < bl (n <<< p) := bl_of_bit (by rw [Nat.testBit_shiftLeft, Nat.add_sub_cancel, bl_top h]; simp)
  omega
theorem bl_xor_lt {a b : Nat} (h : bl a = bl b) (hp : 0 < bl a) : bl (a ^^^ b) < bl a := by
  have ha : 0 < a := by
    rcases Nat.eq_zero_or_pos a with z | z
    · subst z; exact absurd hp (by decide)
    · exact z
  have hb : 0 < b := by
    rcases Nat.eq_zero_or_pos b with z | z
    · subst z; rw [h] at hp; exact absurd hp (by decide)
    · exact z
  have : bl (a ^^^ b) ≤ bl a - 1 := bl_le_of_bits fun i hi => by
    rw [Nat.testBit_xor]
    by_cases e : i = bl a - 1
    · rw [e, bl_top ha, h, bl_top hb]; rfl
    · rw [bit_over (show bl a ≤ i by omega), bit_over (show bl b ≤ i by omega)]; rfl
  omega
theorem bl_xor_le (a b : Nat) : bl (a ^^^ b) ≤ max (bl a) (bl b) := bl_le_of_bits fun i hi => by
  rw [Nat.testBit_xor, bit_over (show bl a ≤ i by omega), bit_over (show bl b ≤ i by omega)]; rfl
/-- the turns of the division: how many at most, how often so far, what is left -/
def dvF (y : Nat) : Nat → Nat → Nat → Nat × Nat
  | 0, q, r => (q, r)
  | n + 1, q, r => if bl y ≤ bl r then dvF y n (q ||| 1 <<< (bl r - bl y)) (r ^^^ y <<< (bl r - bl y)) else (q, r)
theorem dv_step {y r : Nat} (hy : 0 < y) (h : bl y ≤ bl r) : bl (r ^^^ y <<< (bl r - bl y)) < bl r := by
  have := bl_pos hy
  exact bl_xor_lt (by rw [bl_shift hy]; omega) (by omega)
theorem or_eq_xor {q p : Nat} (h : q.testBit p = false) : q ||| 1 <<< p = q ^^^ 1 <<< p := by
  apply Nat.eq_of_testBit_eq
  intro i
  rw [Nat.testBit_or, Nat.testBit_xor, Nat.one_shiftLeft, Nat.testBit_two_pow]
  by_cases e : p = i
  · subst e; rw [h]; simp
  · simp [e]
theorem dvF_spec {y : Nat} (hy : 0 < y) : ∀ (n q r x : Nat), bl r ≤ n → x = clm q y ^^^ r → (∀ i, q.testBit i = true → bl r < bl y + i) → bl (dvF y n q r).2 < bl y ∧ x = clm (dvF y n q r).1 y ^^^ (dvF y n q r).2
  | 0, q, r, x, h, e, _ => by
    have := bl_pos hy
    exact ⟨by show bl r < bl y; omega, e⟩
  | n + 1, q, r, x, h, e, hq => by
    unfold dvF
    split
    · rename_i l
      have st := dv_step hy l
      have hy' := bl_pos hy
      have hb : q.testBit (bl r - bl y) = false := by
        cases z : q.testBit (bl r - bl y) with
        | false => rfl
        | true => have := hq _ z; omega
      refine dvF_spec hy n _ _ x (by omega) ?_ fun i hi => ?_
      · rw [or_eq_xor hb, clm_xor_left, clm_shift_left, clm_one_left, e]
        rw [Nat.xor_assoc, Nat.xor_comm r, ← Nat.xor_assoc (y <<< _), Nat.xor_self, Nat.zero_xor]
      · rw [Nat.testBit_or, Nat.one_shiftLeft, Nat.testBit_two_pow] at hi
        rcases Bool.or_eq_true _ _ ▸ hi with z | z
        · have := hq i z; omega
        · have := of_decide_eq_true z; omega
    · rename_i l; exact ⟨by show bl r < bl y; omega, e⟩
/-- a product of what is not 0 is no shorter than one of them -/
theorem bl_clm {q y : Nat} (hq : 0 < q) (hy : 0 < y) : bl y ≤ bl (clm y q) := by
  have h1 := bl_pos hq
  have h2 := bl_pos hy
  have key : ∀ k, k ≤ bl q - 1 → bl (mulF y q k) ≤ bl y + k - 1 ∨ k = 0 := by
    intro k
    induction k with
    | zero => intro _; exact .inr rfl
    | succ k ih =>
      intro hk
      refine .inl ?_
      simp only [mulF]
      have a1 := bl_xor_le (mulF y q k) (if q.testBit k then y <<< k else 0)
      have a2 : bl (if q.testBit k then y <<< k else 0) ≤ bl y + k := by
        split
        · rw [bl_shift hy]; exact Nat.le_refl _
        · exact Nat.zero_le _
      rcases ih (by omega) with z | z
      · omega
      · subst z
        have : bl (mulF y q 0) = 0 := rfl
        omega
  have e : clm y q = mulF y q (bl q - 1) ^^^ y <<< (bl q - 1) := by
    rw [clm_eq y q (k := (bl q - 1) + 1) (by rw [show bl q - 1 + 1 = bl q by omega]; exact lt_bl q)]
    simp only [mulF]
    rw [bl_top hq]; rfl
  have t : (clm y q).testBit (bl y - 1 + (bl q - 1)) = true := by
    rw [e, Nat.testBit_xor, Nat.testBit_shiftLeft, Nat.add_sub_cancel, bl_top hy]
    rw [show (mulF y q (bl q - 1)).testBit (bl y - 1 + (bl q - 1)) = false from by
      rcases key _ (Nat.le_refl _) with z | z
      · exact bit_over (by omega)
      · rw [z]; exact Nat.zero_testBit _]
    simp
  have := bl_of_bit t
  omega
def dvq (x y : Nat) : Nat := (dvF y (bl x) 0 x).1
def dvr (x y : Nat) : Nat := if y = 0 then x else (dvF y (bl x) 0 x).2
theorem dv_spec (x : Nat) {y : Nat} (hy : 0 < y) : bl (dvr x y) < bl y ∧ x = clm (dvq x y) y ^^^ dvr x y := by
  unfold dvr dvq
  rw [if_neg (by omega)]
  exact dvF_spec hy (bl x) 0 x x (Nat.le_refl _) (by rw [clm_zero_left, Nat.zero_xor]) (fun i z => by rw [Nat.zero_testBit] at z; cases z)
theorem dvr_uniq {x y q r : Nat} (hy : 0 < y) (h : bl r < bl y) (e : x = clm q y ^^^ r) : dvr x y = r := by
  obtain ⟨h1, h2⟩ := dv_spec x hy
  have h3 : clm (dvq x y ^^^ q) y = dvr x y ^^^ r := by
    rw [clm_xor_left]
    have : clm (dvq x y) y ^^^ dvr x y = clm q y ^^^ r := by rw [← h2, ← e]
    have k : (clm (dvq x y) y ^^^ dvr x y) ^^^ (clm q y ^^^ dvr x y) = (clm q y ^^^ r) ^^^ (clm q y ^^^ dvr x y) := by rw [this]
    rw [xor4, Nat.xor_self, Nat.xor_zero] at k
    rw [xor4, Nat.xor_self, Nat.zero_xor] at k
    rw [k, Nat.xor_comm]
  rcases Nat.eq_zero_or_pos (dvq x y ^^^ q) with z | z
  · rw [z, clm_zero_left] at h3
    have a : dvr x y ^^^ r ^^^ r = 0 ^^^ r := by rw [← h3]
    rwa [Nat.xor_assoc, Nat.xor_self, Nat.xor_zero, Nat.zero_xor] at a
  · have a := bl_clm z hy
    rw [clm_comm, h3] at a
    have b := bl_xor_le (dvr x y) r
    omega
end PU
set_option Elab.async false
set_option linter.all false
set_option maxRecDepth 100000
/-! P1: data, worlds, judgements over data. -/
namespace PU
open PySem PySem.Spec PyProof.Rows L2

/-- plain data -/
inductive D where
  | non | bl (b : Bool) | int (i : Int) | str (x : Str) | lst (ds : List D) | tup (ds : List D)
  | scr (ds : List D) | dct (ks : List Key) (ds : List D) | obj (C : Addr) (fs : List Str) (ds : List D) | ptr (a : Addr) | vl (v : V) | tab (q : Str) | prs (n : Nat) | lam (qual : Str) (params : Arguments) (body : Expr) (scope : Scope)

abbrev Fg := PySem.W.Frag
def Ex (H H' : Hp) : Prop := ∀ a o, H a = some o → H' a = some o
theorem Ex.refl (H : Hp) : Ex H H := fun _ _ h => h
theorem Ex.trans {H H1 H2 : Hp} (a : Ex H H1) (b : Ex H1 H2) : Ex H H2 := fun x o h => b x o (a x o h)
theorem Ex.new {H : Hp} {p : Addr} {o : HO} (h : H p = none) : Ex H (upd H p o) := fun a u e => by
  rw [upd_ne (ne_of_none e h)]; exact e
theorem Ex.back {H H' : Hp} {p : Addr} (e : Ex H H') (h : H' p = none) : H p = none := by
  cases h1 : H p with
  | none => rfl
  | some o => rw [e p o h1] at h; cases h
theorem Ex.upd2 {H H' : Hp} {p : Addr} {o : HO} (e : Ex H H') : Ex (upd H p o) (upd H' p o) := fun a u h => by
  by_cases q : a = p
  · subst q; rw [upd_same] at h ⊢; exact h
  · rw [upd_ne q] at h ⊢; exact e a u h
theorem ex_rd {H H' : Hp} {a : Addr} {u : HO} (e : Ex H H') (h : Rd H a u) : Rd H' a u := by
  rcases h with h | ⟨o, h⟩
  · exact Or.inl (e a _ h)
  · exact Or.inr ⟨o, e a _ h⟩
theorem ex_l {K : Fg} {H H' : Hp} {a : Addr} {xs : List V} (e : Ex H H') (h : SqL K H a xs) : SqL K H' a xs := by
  rcases h with h | h
  · exact Or.inl (ex_rd e h)
  · exact Or.inr h
theorem ex_t {K : Fg} {H H' : Hp} {a : Addr} {xs : List V} (e : Ex H H') (h : SqT K H a xs) : SqT K H' a xs := by
  rcases h with h | h
  · exact Or.inl (ex_rd e h)
  · exact Or.inr h

mutual
def Is (K : Fg) (H : Hp) : D → V → Prop
  | .non, v => v = .non
  | .bl b, v => v = .bl b
  | .int i, v => v = .int i
  | .str x, v => v = .str x
  | .lst ds, v => ∃ p xs, v = .ref p ∧ H p = some (.lst xs) ∧ IsL K H ds xs
  | .scr ds, v => ∃ p xs, v = .ref p ∧ SqL K H p xs ∧ IsL K H ds xs
  | .tup ds, v => ∃ p xs, v = .ref p ∧ SqT K H p xs ∧ IsL K H ds xs
  | .dct ks ds, v => ∃ p xs, v = .ref p ∧ H p = some (.dK (ks.zip xs)) ∧ ks.length = xs.length ∧ IsL K H ds xs
  | .obj C fs ds, v => ∃ p dx xs, v = .ref p ∧ H p = some (.ins C dx (fs.zip xs)) ∧ H dx = some (.own p) ∧ fs.length = xs.length ∧ IsL K H ds xs
  | .ptr a, v => v = .ref a
  | .vl w, v => v = w
  | .tab _, _ => False
  | .prs _, _ => False
  | .lam qual params body scope, v => ∃ f c' pm ctv, v = .ref f ∧ H f = some (.ext fun h => h.get? f = some (PySem.W.kla_obj "<lambda>" qual params body scope [] pm c' ctv)) ∧ H c' = some (LamX.CodeO c' qual)
def IsL (K : Fg) (H : Hp) : List D → List V → Prop
  | [], xs => xs = []
  | d :: ds, xs => ∃ x r, xs = x :: r ∧ Is K H d x ∧ IsL K H ds r
end
section
variable {K : Fg} {H H' : Hp}
mutual
theorem Is.mono (e : Ex H H') : ∀ {d : D} {v : V}, Is K H d v → Is K H' d v
  | .non, _, h => by simpa only [Is] using h
  | .bl _, _, h => by simpa only [Is] using h
  | .int _, _, h => by simpa only [Is] using h
  | .str _, _, h => by simpa only [Is] using h
  | .lst _, _, h => by
    simp only [Is] at h ⊢
    obtain ⟨p, xs, a, b, c⟩ := h
    exact ⟨p, xs, a, e _ _ b, IsL.mono e c⟩
  | .scr _, _, h => by
    simp only [Is] at h ⊢
    obtain ⟨p, xs, a, b, c⟩ := h
    exact ⟨p, xs, a, ex_l e b, IsL.mono e c⟩
  | .tup _, _, h => by
    simp only [Is] at h ⊢
    obtain ⟨p, xs, a, b, c⟩ := h
    exact ⟨p, xs, a, ex_t e b, IsL.mono e c⟩
  | .dct _ _, _, h => by
    simp only [Is] at h ⊢
    obtain ⟨p, xs, a, b, l, c⟩ := h
    exact ⟨p, xs, a, e _ _ b, l, IsL.mono e c⟩
  | .obj _ _ _, _, h => by
    simp only [Is] at h ⊢
    obtain ⟨p, dx, xs, a, b, b2, l, c⟩ := h
    exact ⟨p, dx, xs, a, e _ _ b, e _ _ b2, l, IsL.mono e c⟩
  | .ptr _, _, h => by simpa only [Is] using h
  | .vl _, _, h => by simpa only [Is] using h
  | .tab _, _, h => by simpa only [Is] using h
  | .prs _, _, h => by simpa only [Is] using h
  | .lam _ _ _ _, _, h => by
    simp only [Is] at h ⊢
    obtain ⟨f, c', pm, ctv, a, b, c⟩ := h
    exact ⟨f, c', pm, ctv, a, e _ _ b, e _ _ c⟩
theorem IsL.mono (e : Ex H H') : ∀ {ds : List D} {xs : List V}, IsL K H ds xs → IsL K H' ds xs
  | [], _, h => by simpa only [IsL] using h
  | _ :: _, _, h => by
    simp only [IsL] at h ⊢
    obtain ⟨x, r, a, b, c⟩ := h
    exact ⟨x, r, a, Is.mono e b, IsL.mono e c⟩
end
theorem IsL.len : ∀ {ds : List D} {xs : List V}, IsL K H ds xs → ds.length = xs.length
  | [], _, h => by simp only [IsL] at h; subst h; rfl
  | _ :: _, _, h => by
    simp only [IsL] at h
    obtain ⟨x, r, rfl, _, c⟩ := h
    simp only [List.length_cons]; rw [IsL.len c]
theorem IsL.nil : IsL K H [] [] := by simp only [IsL]
theorem IsL.cons {d : D} {x : V} {ds : List D} {xs : List V} (h : Is K H d x) (t : IsL K H ds xs) : IsL K H (d :: ds) (x :: xs) := by
  simp only [IsL]; exact ⟨x, xs, rfl, h, t⟩
theorem IsL.cons_inv {d : D} {x : V} {ds : List D} {xs : List V} (h : IsL K H (d :: ds) (x :: xs)) : Is K H d x ∧ IsL K H ds xs := by
  simp only [IsL] at h
  obtain ⟨_, _, e, a, b⟩ := h
  cases e; exact ⟨a, b⟩
theorem IsL.get : ∀ {ds : List D} {xs : List V} {i : Nat} {d : D}, IsL K H ds xs → ds[i]? = some d → ∃ x, xs[i]? = some x ∧ Is K H d x
  | [], _, _, _, _, e => by simp at e
  | d :: ds, xs, i, d', h, e => by
    simp only [IsL] at h
    obtain ⟨x, r, rfl, a, c⟩ := h
    cases i with
    | zero => simp at e; subst e; exact ⟨x, rfl, a⟩
    | succ i => exact IsL.get (ds := ds) (xs := r) (i := i) c (by simpa using e)
theorem IsL.getV {ds : List D} {xs : List V} {i : Nat} {x : V} (h : IsL K H ds xs) (e : xs[i]? = some x) : ∃ d, ds[i]? = some d ∧ Is K H d x := by
  have hl := (List.getElem?_eq_some_iff.mp e).1
  rw [← h.len] at hl
  obtain ⟨y, e', k⟩ := h.get (List.getElem?_eq_getElem hl)
  rw [e] at e'; cases e'
  exact ⟨_, List.getElem?_eq_getElem hl, k⟩
theorem IsL.app : ∀ {ds es : List D} {xs ys : List V}, IsL K H ds xs → IsL K H es ys → IsL K H (ds ++ es) (xs ++ ys)
  | [], _, _, _, h, k => by simp only [IsL] at h; subst h; exact k
  | d :: ds, es, xs, ys, h, k => by
    simp only [IsL] at h
    obtain ⟨x, r, rfl, a, c⟩ := h
    exact .cons a (IsL.app c k)
theorem IsL.one {d : D} {x : V} (h : Is K H d x) : IsL K H [d] [x] := .cons h .nil
theorem IsL.take (n : Nat) : ∀ {ds : List D} {xs : List V}, IsL K H ds xs → IsL K H (ds.take n) (xs.take n)
  | [], _, h => by simp only [IsL] at h; subst h; simp [IsL.nil]
  | d :: ds, xs, h => by
    simp only [IsL] at h
    obtain ⟨x, r, rfl, a, c⟩ := h
    cases n with
    | zero => exact .nil
    | succ n => exact .cons a (IsL.take n c)
theorem IsL.drop (n : Nat) : ∀ {ds : List D} {xs : List V}, IsL K H ds xs → IsL K H (ds.drop n) (xs.drop n)
  | [], _, h => by simp only [IsL] at h; subst h; simp [IsL.nil]
  | d :: ds, xs, h => by
    cases n with
    | zero => exact h
    | succ n =>
      simp only [IsL] at h
      obtain ⟨x, r, rfl, a, c⟩ := h
      exact IsL.drop n c
theorem IsL.set {d : D} {x : V} (k : Is K H d x) : ∀ {ds : List D} {xs : List V} (i : Nat), IsL K H ds xs → IsL K H (ds.set i d) (xs.set i x)
  | [], _, _, h => by simp only [IsL] at h; subst h; simp [IsL.nil]
  | d' :: ds, xs, i, h => by
    simp only [IsL] at h
    obtain ⟨y, r, rfl, a, c⟩ := h
    cases i with
    | zero => exact .cons k c
    | succ i => exact .cons a (IsL.set k i c)
theorem IsL.reverse : ∀ {ds : List D} {xs : List V}, IsL K H ds xs → IsL K H ds.reverse xs.reverse
  | [], _, h => by simp only [IsL] at h; subst h; exact .nil
  | d :: ds, xs, h => by
    simp only [IsL] at h
    obtain ⟨x, r, rfl, a, c⟩ := h
    rw [List.reverse_cons, List.reverse_cons]
    exact (IsL.reverse c).app (.one a)
theorem IsL.ints : ∀ {ns : List Int} {xs : List V}, IsL K H (ns.map D.int) xs → xs = ns.map V.int
  | [], _, h => by simp only [List.map, IsL] at h; exact h
  | n :: ns, xs, h => by
    simp only [List.map, IsL, Is] at h
    obtain ⟨x, r, rfl, rfl, c⟩ := h
    rw [IsL.ints c]; rfl
theorem IsL.of_ints : ∀ (ns : List Int), IsL K H (ns.map D.int) (ns.map V.int)
  | [] => .nil
  | n :: ns => .cons (by simp only [Is]) (IsL.of_ints ns)
theorem IsL.strs : ∀ {ns : List Str} {xs : List V}, IsL K H (ns.map D.str) xs → xs = ns.map V.str
  | [], _, h => by simp only [List.map, IsL] at h; exact h
  | n :: ns, xs, h => by
    simp only [List.map, IsL, Is] at h
    obtain ⟨x, r, rfl, rfl, c⟩ := h
    rw [IsL.strs c]; rfl
theorem IsL.of_strs : ∀ (ns : List Str), IsL K H (ns.map D.str) (ns.map V.str)
  | [] => .nil
  | n :: ns => .cons (by simp only [Is]) (IsL.of_strs ns)
end

/-! ### worlds: what is frozen (Hf), what others hold (Hr), what is owned (Th) -/
abbrev Th := Addr → Option D
def Th0 : Th := fun _ => none
/-- tables alone, all of which another map has too -/
def TabOnly (T : Th) : Prop := ∀ a c, T a = some c → ∃ q, c = .tab q
def Le (T T' : Th) : Prop := ∀ a c, T a = some c → T' a = some c
theorem Le.refl (T : Th) : Le T T := fun _ _ h => h
def tset (T : Th) (p : Addr) (d : D) : Th := fun b => if b = p then some d else T b
def tdel (T : Th) (p : Addr) : Th := fun b => if b = p then none else T b
theorem Le.tset {T T' : Th} {p : Addr} {d : D} (l : Le T T') (h : T' p = none) : Le T (tset T' p d) := fun a c e => by
  unfold PU.tset
  split
  · rename_i z; rw [z] at e; rw [l _ _ e] at h; cases h
  · exact l _ _ e
theorem Le.tset' {T T' : Th} {p : Addr} {d : D} (l : Le T T') (h : T p = none) : Le T (PU.tset T' p d) := fun a c e => by
  unfold PU.tset
  split
  · rename_i z; rw [z, h] at e; cases e
  · exact l _ _ e
theorem tset_same {T : Th} {p : Addr} {d : D} : tset T p d p = some d := by unfold tset; rw [if_pos rfl]
theorem tset_ne {T : Th} {p q : Addr} {d : D} (h : q ≠ p) : tset T p d q = T q := by unfold tset; rw [if_neg h]
theorem tset_tset {T : Th} {p : Addr} {d e : D} : tset (tset T p d) p e = tset T p e := by funext b; unfold tset; split <;> rfl
theorem tdel_tset0 {p : Addr} {d : D} : tdel (tset Th0 p d) p = Th0 := by funext b; unfold tdel tset Th0; split <;> rfl
theorem tdel_tset {T : Th} {p : Addr} {d : D} (h : T p = none) : tdel (tset T p d) p = T := by
  funext b; unfold tdel tset; split
  · rename_i e; rw [e, h]
  · rfl

/-- a purse: a great number to be drawn from, a seed, how often was drawn, a place -/
def Purse (n : Nat) (xs : List V) : Prop := ∃ a b c d : Int, xs = [.int a, .int b, .int c, .int d] ∧ 0 ≤ a ∧ a < 2 ^ 2000 ∧ 0 ≤ b ∧ b < 2147483629 ∧ 0 ≤ c ∧ c ≤ n ∧ 0 ≤ d ∧ d < 100
/-- a table of code objects, all of one name -/
def TabQ (Hf : Hp) (q : Str) (ps : Array Value) : Prop := TriplesOk ps.toList ∧ ∀ (pos : Pos) (cv : Value), codeAmong pos ps.toList = some cv → ∃ c, cv = .ref c ∧ Hf c = some (LamX.CodeO c q)
theorem TabQ.mono {Hf Hf' : Hp} {q : Str} {ps : Array Value} (h : TabQ Hf q ps) (e : Ex Hf Hf') : TabQ Hf' q ps := ⟨h.1, fun pos cv z => let ⟨c, a, b⟩ := h.2 pos cv z; ⟨c, a, e _ _ b⟩⟩
/-- an owned object: its items frozen -/
def Own (K : Fg) (Hf H : Hp) (a : Addr) : D → Prop
  | .lst ds => ∃ xs, H a = some (.lst xs) ∧ IsL K Hf ds xs
  | .dct ks ds => ∃ xs, H a = some (.dK (ks.zip xs)) ∧ ks.length = xs.length ∧ IsL K Hf ds xs
  | .obj C fs ds => ∃ dx xs, H a = some (.ins C dx (fs.zip xs)) ∧ H dx = some (.own a) ∧ Hf dx = none ∧ fs.length = xs.length ∧ IsL K Hf ds xs
  | .tab q => ∃ ps, H a = some (.tbl ps) ∧ TabQ Hf q ps
  | .prs n => ∃ xs, H a = some (.lst xs) ∧ Purse n xs
  | _ => False
structure Wd (K : Fg) (Hf Hr H : Hp) (T : Th) : Prop where
  f : Ex Hf H
  r : Ex Hr H
  d : ∀ a o, Hf a = some o → Hr a = none
  tf : ∀ a c, T a = some c → Hf a = none ∧ Hr a = none
  to : ∀ a c, T a = some c → Own K Hf H a c
  tx : ∀ a C fs ds, T a = some (.obj C fs ds) → ∀ dx xs, H a = some (.ins C dx xs) → Hr dx = none ∧ Hf dx = none
theorem Own.there {K : Fg} {Hf H : Hp} {a : Addr} {c : D} (h : Own K Hf H a c) : ∃ o, H a = some o := by
  cases c <;> simp only [Own] at h <;> first | exact h.elim | exact ⟨_, h.choose_spec.1⟩ | exact ⟨_, h.choose_spec.choose_spec.1⟩
theorem Own.mono {K : Fg} {Hf Hf' H H' : Hp} {a : Addr} {c : D} (h : Own K Hf H a c) (e : Ex Hf Hf') (e2 : Ex H H') (n : ∀ b o, H b = some o → Hf b = none → Hf' b = none) : Own K Hf' H' a c := by
  cases c <;> simp only [Own] at h ⊢ <;> first | exact h.elim | skip
  · obtain ⟨xs, p, q⟩ := h; exact ⟨xs, e2 _ _ p, q.mono e⟩
  · obtain ⟨xs, p, l, q⟩ := h; exact ⟨xs, e2 _ _ p, l, q.mono e⟩
  · obtain ⟨dx, xs, p, p2, p3, l, q⟩ := h
    exact ⟨dx, xs, e2 _ _ p, e2 _ _ p2, n _ _ p2 p3, l, q.mono e⟩
  · obtain ⟨ps, p, q⟩ := h; exact ⟨ps, e2 _ _ p, q.mono e⟩
  · obtain ⟨ps, p, q⟩ := h; exact ⟨ps, e2 _ _ p, q⟩
section
variable {K : Fg} {Hf Hr H : Hp} {T : Th}
/-- a new frozen object -/
theorem Wd.new (w : Wd K Hf Hr H T) {p : Addr} {o : HO} (h : H p = none) : Wd K (upd Hf p o) Hr (upd H p o) T := by
  have hf : Hf p = none := w.f.back h
  have hr : Hr p = none := w.r.back h
  have ht : ∀ a c, T a = some c → a ≠ p := fun a c e q => by
    obtain ⟨o, z⟩ := Own.there (w.to a c e)
    rw [q, h] at z; cases z
  refine ⟨w.f.upd2, w.r.trans (Ex.new h), fun a u e => ?_, fun a c e => ⟨?_, (w.tf a c e).2⟩, fun a c e => ?_, fun a C fs ds e dx xs e2 => ?_⟩
  · by_cases q : a = p
    · rw [q]; exact hr
    · rw [upd_ne q] at e; exact w.d a u e
  · rw [upd_ne (ht a c e)]; exact (w.tf a c e).1
  · exact Own.mono (w.to a c e) (Ex.new hf) (Ex.new h) fun b u q z => by
      rw [upd_ne (ne_of_none q h)]; exact z
  · rw [upd_ne (ht a _ e)] at e2
    have k := w.tx a C fs ds e dx xs e2
    have ho := w.to a _ e
    simp only [Own] at ho
    obtain ⟨dx', xs', p1, p2, _⟩ := ho
    rw [e2] at p1; cases p1
    exact ⟨k.1, by rw [upd_ne (ne_of_none p2 h)]; exact k.2⟩
end

/-! ### environments -/
abbrev Rho := List (Option D)
structure EnvF (K : Fg) (Hf : Hp) (σ : L2.St) (ρ : Rho) : Prop where
  len : σ.length = ρ.length
  at_ : ∀ (j : Nat) (d : D), ρ[j]? = some (some d) → ∃ v, σ[j]? = some (some v) ∧ Is K Hf d v
theorem EnvF.mono {K : Fg} {Hf Hf' : Hp} {σ : L2.St} {ρ : Rho} (h : EnvF K Hf σ ρ) (e : Ex Hf Hf') : EnvF K Hf' σ ρ :=
  ⟨h.len, fun j d q => let ⟨v, a, b⟩ := h.at_ j d q; ⟨v, a, b.mono e⟩⟩
theorem EnvF.set {K : Fg} {Hf : Hp} {σ : L2.St} {ρ : Rho} {d : D} {v : V} (h : EnvF K Hf σ ρ) (i : Nat) (k : Is K Hf d v) : EnvF K Hf (σ.set i (some v)) (ρ.set i (some d)) := by
  refine ⟨by simpa using h.len, fun j d' q => ?_⟩
  by_cases e : i = j
  · subst e
    have hi : i < ρ.length := by
      have := (List.getElem?_eq_some_iff.mp q).1
      simpa using this
    rw [List.getElem?_set_self hi] at q
    cases q
    exact ⟨v, by rw [List.getElem?_set_self (by rw [h.len]; exact hi)], k⟩
  · rw [List.getElem?_set_ne e] at q ⊢
    exact h.at_ j d' q
theorem EnvF.forget {K : Fg} {Hf : Hp} {σ : L2.St} {ρ : Rho} (h : EnvF K Hf σ ρ) {ρ' : Rho} (l : ρ'.length = ρ.length) (k : ∀ (j : Nat) (d : D), ρ'[j]? = some (some d) → ρ[j]? = some (some d)) : EnvF K Hf σ ρ' :=
  ⟨by rw [l]; exact h.len, fun j d q => h.at_ j d (k j d q)⟩

/-! ### judgements -/
/-- an expression evaluates to d -/
def tE (K : Fg) (ρ : Rho) (T : Th) (d : D) : TE := fun σ H Q => ∃ Hf Hr, Wd K Hf Hr H T ∧ EnvF K Hf σ ρ ∧ ∀ v H2 Hf2, Ex Hf Hf2 → Wd K Hf2 Hr H2 T → Is K Hf2 d v → Q v H2
/-- a container, whose items are frozen, itself perhaps owned: for reading at once -/
def tO (K : Fg) (ρ : Rho) (T : Th) (d : D) : TE := fun σ H Q => ∃ Hf Hr, Wd K Hf Hr H T ∧ EnvF K Hf σ ρ ∧ ∀ a H2 Hf2, Ex Hf Hf2 → Wd K Hf2 Hr H2 T → Own K Hf2 H2 a d → Q (.ref a) H2
def tT (K : Fg) (ρ : Rho) (T : Th) (b : Bool) : TT := fun σ H Q => ∃ Hf Hr, Wd K Hf Hr H T ∧ EnvF K Hf σ ρ ∧ ∀ H2 Hf2, Ex Hf Hf2 → Wd K Hf2 Hr H2 T → Q b H2
def tA (K : Fg) (ρ : Rho) (T : Th) (ds : List D) : TA := fun σ H Q => ∃ Hf Hr, Wd K Hf Hr H T ∧ EnvF K Hf σ ρ ∧ ∀ vs H2 Hf2, Ex Hf Hf2 → Wd K Hf2 Hr H2 T → IsL K Hf2 ds vs → Q vs H2
abbrev Ev (X : Cx) (e : Expr) (ρ : Rho) (T : Th) (d : D) : Prop := PE X e (tE X.K ρ T d)
abbrev EvO (X : Cx) (e : Expr) (ρ : Rho) (T : Th) (d : D) : Prop := PE X e (tO X.K ρ T d)
abbrev EvT (X : Cx) (e : Expr) (ρ : Rho) (T : Th) (b : Bool) : Prop := PT X e (tT X.K ρ T b)
abbrev EvW (X : Cx) (e : Expr) (ρ : Rho) (T : Th) (b : Bool) : Prop := PW X e (tT X.K ρ T b)
abbrev EvA (X : Cx) (es : List Expr) (ρ : Rho) (T : Th) (ds : List D) : Prop := PA X es (tA X.K ρ T ds)
theorem PE_imp {X : Cx} {e : Expr} {t t' : TE} (h : PE X e t) (k : ∀ σ H Q, t' σ H Q → t σ H Q) : PE X e t' := ⟨fun pins s σ H Q I q => h.run pins s σ H Q I (k _ _ _ q)⟩
theorem PT_imp {X : Cx} {e : Expr} {t t' : TT} (h : PT X e t) (k : ∀ σ H Q, t' σ H Q → t σ H Q) : PT X e t' := ⟨fun pins s σ H Q I q => h.run pins s σ H Q I (k _ _ _ q)⟩
theorem PW_imp {X : Cx} {e : Expr} {t t' : TT} (h : PW X e t) (k : ∀ σ H Q, t' σ H Q → t σ H Q) : PW X e t' := ⟨fun wh pins s σ H Q I q => h.run wh pins s σ H Q I (k _ _ _ q)⟩
theorem PA_imp {X : Cx} {es : List Expr} {t t' : TA} (h : PA X es t) (k : ∀ σ H Q, t' σ H Q → t σ H Q) : PA X es t' := ⟨fun p pins s σ H Q I q => h.run p pins s σ H Q I (k _ _ _ q)⟩
theorem PS_imp {X : Cx} {e : Stmt} {t t' : TS} (h : PS X e t) (k : ∀ D σ H, t' D σ H → t D σ H) : PS X e t' := ⟨fun pins s σ H D I q => h.run pins s σ H D I (k _ _ _ q)⟩
theorem PSs_imp {X : Cx} {e : List Stmt} {t t' : TS} (h : PSs X e t) (k : ∀ D σ H, t' D σ H → t D σ H) : PSs X e t' := ⟨fun pins s σ H D I q => h.run pins s σ H D I (k _ _ _ q)⟩

/-- what a block comes to -/
structure Rs where
  nx : Rho → Th → Prop
  rt : D → Th → Prop
  bk : Rho → Th → Prop := fun _ _ => False
  ct : Rho → Th → Prop := fun _ _ => False
def EndsOk (K : Fg) (Hf Hr : Hp) (R : Rs) (D : Ends) : Prop :=
  (∀ ρ' T' σ' H' Hf', R.nx ρ' T' → Ex Hf Hf' → Wd K Hf' Hr H' T' → EnvF K Hf' σ' ρ' → D.nx σ' H') ∧
  (∀ d T' v H' Hf', R.rt d T' → Ex Hf Hf' → Wd K Hf' Hr H' T' → Is K Hf' d v → D.rt v H') ∧
  (∀ ρ' T' σ' H' Hf', R.bk ρ' T' → Ex Hf Hf' → Wd K Hf' Hr H' T' → EnvF K Hf' σ' ρ' → D.bk σ' H') ∧
  (∀ ρ' T' σ' H' Hf', R.ct ρ' T' → Ex Hf Hf' → Wd K Hf' Hr H' T' → EnvF K Hf' σ' ρ' → D.ct σ' H')
theorem EndsOk.mono {K : Fg} {Hf Hf1 Hr : Hp} {R : Rs} {D : Ends} (h : EndsOk K Hf Hr R D) (e : Ex Hf Hf1) : EndsOk K Hf1 Hr R D :=
  ⟨fun a b c d f q e2 => h.1 a b c d f q (e.trans e2), fun a b c d f q e2 => h.2.1 a b c d f q (e.trans e2), fun a b c d f q e2 => h.2.2.1 a b c d f q (e.trans e2), fun a b c d f q e2 => h.2.2.2 a b c d f q (e.trans e2)⟩
def tS (K : Fg) (ρ : Rho) (T : Th) (R : Rs) : TS := fun D σ H => ∃ Hf Hr, Wd K Hf Hr H T ∧ EnvF K Hf σ ρ ∧ EndsOk K Hf Hr R D
abbrev Ru (X : Cx) (ss : List Stmt) (ρ : Rho) (T : Th) (R : Rs) : Prop := PSs X ss (tS X.K ρ T R)
abbrev RuS (X : Cx) (st : Stmt) (ρ : Rho) (T : Th) (R : Rs) : Prop := PS X st (tS X.K ρ T R)
def wS (X : Cx) (ss : List Stmt) : TS := fun D σ H => ∀ pins s, Inv X pins σ H s → wpAny (model X.prog X.w) X.A (execs ss X.env) (SP X pins D) X.xe s
theorem pss_wS {X : Cx} {ss : List Stmt} : PSs X ss (wS X ss) := ⟨fun pins s σ H D I h => h pins s I⟩
section
variable {X : Cx} {st : Stmt} {rest : List Stmt} {ρ : Rho} {T : Th} {R : Rs}
theorem ru_nil (h : R.nx ρ T) : Ru X [] ρ T R := PSs_imp pss_nil fun D σ H ⟨Hf, Hr, w, e, k⟩ => k.1 ρ T σ H Hf h (Ex.refl _) w e
theorem ru_cons (h1 : RuS X st ρ T { R with nx := fun ρ' T' => Ru X rest ρ' T' R }) : Ru X (st :: rest) ρ T R :=
  PSs_imp (pss_cons h1 pss_wS) fun D σ H ⟨Hf, Hr, w, e, k⟩ =>
    ⟨Hf, Hr, w, e, fun ρ' T' σ' H' Hf' h e' w' en' pins s I => h.run pins s σ' H' D I ⟨Hf', Hr, w', en', k.mono e'⟩, k.2.1, k.2.2.1, k.2.2.2⟩
theorem ru_one (h1 : RuS X st ρ T R) : Ru X [st] ρ T R := pss_one h1
/-- forget -/
theorem ru_forget {ss : List Stmt} {ρ' : Rho} (h : Ru X ss ρ' T R) (l : ρ'.length = ρ.length) (k : ∀ (j : Nat) (d : D), ρ'[j]? = some (some d) → ρ[j]? = some (some d)) : Ru X ss ρ T R :=
  PSs_imp h fun D σ H ⟨Hf, Hr, w, e, q⟩ => ⟨Hf, Hr, w, e.forget l k, q⟩
theorem ruS_mono {R' : Rs} (h : RuS X st ρ T R) (h1 : ∀ a b, R.nx a b → R'.nx a b) (h2 : ∀ a b, R.rt a b → R'.rt a b) (h3 : ∀ a b, R.bk a b → R'.bk a b) (h4 : ∀ a b, R.ct a b → R'.ct a b) : RuS X st ρ T R' :=
  PS_imp h fun D σ H ⟨Hf, Hr, w, e, q⟩ => ⟨Hf, Hr, w, e, fun a b c d f z => q.1 a b c d f (h1 _ _ z), fun a b c d f z => q.2.1 a b c d f (h2 _ _ z), fun a b c d f z => q.2.2.1 a b c d f (h3 _ _ z), fun a b c d f z => q.2.2.2 a b c d f (h4 _ _ z)⟩
theorem ru_mono {ss : List Stmt} {R' : Rs} (h : Ru X ss ρ T R) (h1 : ∀ a b, R.nx a b → R'.nx a b) (h2 : ∀ a b, R.rt a b → R'.rt a b) (h3 : ∀ a b, R.bk a b → R'.bk a b) (h4 : ∀ a b, R.ct a b → R'.ct a b) : Ru X ss ρ T R' :=
  PSs_imp h fun D σ H ⟨Hf, Hr, w, e, q⟩ => ⟨Hf, Hr, w, e, fun a b c d f z => q.1 a b c d f (h1 _ _ z), fun a b c d f z => q.2.1 a b c d f (h2 _ _ z), fun a b c d f z => q.2.2.1 a b c d f (h3 _ _ z), fun a b c d f z => q.2.2.2 a b c d f (h4 _ _ z)⟩
end
end PU
set_option Elab.async false
set_option linter.all false
set_option maxRecDepth 100000
/-! P2: rules for expressions over data. -/
namespace PU
open PySem PySem.Spec PyProof.Rows L2
section
variable {K : Fg} {H : Hp}
theorem is_int {i : Int} {v : V} : Is K H (.int i) v ↔ v = .int i := by simp only [Is]
theorem is_bl {i : Bool} {v : V} : Is K H (.bl i) v ↔ v = .bl i := by simp only [Is]
theorem is_str {i : Str} {v : V} : Is K H (.str i) v ↔ v = .str i := by simp only [Is]
theorem is_non {v : V} : Is K H .non v ↔ v = .non := by simp only [Is]
theorem is_lst {ds : List D} {v : V} : Is K H (.lst ds) v ↔ ∃ p xs, v = .ref p ∧ H p = some (.lst xs) ∧ IsL K H ds xs := by simp only [Is]
theorem is_scr {ds : List D} {v : V} : Is K H (.scr ds) v ↔ ∃ p xs, v = .ref p ∧ SqL K H p xs ∧ IsL K H ds xs := by simp only [Is]
theorem is_tup {ds : List D} {v : V} : Is K H (.tup ds) v ↔ ∃ p xs, v = .ref p ∧ SqT K H p xs ∧ IsL K H ds xs := by simp only [Is]
theorem is_dct {ks : List Key} {ds : List D} {v : V} : Is K H (.dct ks ds) v ↔ ∃ p xs, v = .ref p ∧ H p = some (.dK (ks.zip xs)) ∧ ks.length = xs.length ∧ IsL K H ds xs := by simp only [Is]
theorem is_obj {C : Addr} {fs : List Str} {ds : List D} {v : V} : Is K H (.obj C fs ds) v ↔ ∃ p dx xs, v = .ref p ∧ H p = some (.ins C dx (fs.zip xs)) ∧ H dx = some (.own p) ∧ fs.length = xs.length ∧ IsL K H ds xs := by simp only [Is]
theorem is_ptr {a : Addr} {v : V} : Is K H (.ptr a) v ↔ v = .ref a := by simp only [Is]
theorem is_vl {w v : V} : Is K H (.vl w) v ↔ v = w := by simp only [Is]
end

section
variable {X : Cx} {a b c e : Expr} {es : List Expr} {ρ : Rho} {T : Th} {pos : Pos} {d d1 d2 d3 : D}

/-! ### names, constants -/
theorem ev_c {v : V} (h : PE X e (tC v)) (k : ∀ Hf, Is X.K Hf d v) : Ev X e ρ T d := PE_imp h fun σ H Q ⟨Hf, Hr, w, en, q⟩ => q v H Hf (Ex.refl _) w (k Hf)
theorem ev_n (i : Nat) {x : Str} (hr : ρ[i]? = some (some d) := by rfl) (hN : X.N[i]? = some x := by rfl) (hv : Vis X.env.scope x := by first | exact Or.inl rfl | exact Or.inr (Or.inl rfl) | exact Or.inr (Or.inr rfl)) (hd : (x == ("__debug__" : Str)) = false := by decide)
    (hcd : (x == ("__classdict__" : Str)) = false := by decide) : Ev X (.Name x pos) ρ T d := PE_imp (pe_var hN hv hd hcd) fun σ H Q ⟨Hf, Hr, w, en, q⟩ => by
  obtain ⟨v, e1, e2⟩ := en.at_ i d hr
  exact ⟨v, e1, q v H Hf (Ex.refl _) w e2⟩
theorem ev_int {i : Int} {j pos} : Ev X (.Constant (.int i) j pos) ρ T (.int i) := ev_c pe_int fun _ => is_int.mpr rfl
theorem ev_str {i : Str} {j pos} : Ev X (.Constant (.str i) j pos) ρ T (.str i) := ev_c pe_str fun _ => is_str.mpr rfl
theorem ev_bl {i : Bool} {j pos} : Ev X (.Constant (.bool i) j pos) ρ T (.bl i) := ev_c pe_bl fun _ => is_bl.mpr rfl
theorem ev_non {j pos} : Ev X (.Constant .none j pos) ρ T .non := ev_c pe_non fun _ => is_non.mpr rfl
theorem ev_glob {x : Str} {v : V} {u : Value} (hm : X.mg x = some u) (r : RelV v u) (k : ∀ Hf, Is X.K Hf d v) (hg : Gl X x := by rfl) (hd : (x == ("__debug__" : Str)) = false := by decide) : Ev X (.Name x pos) ρ T d := ev_c (pe_glob hg hm r hd) k
theorem ev_is {d' : D} (h : Ev X e ρ T d) (q : d = d') : Ev X e ρ T d' := q ▸ h
theorem evT_is {x y : Bool} (h : EvT X e ρ T x) (q : x = y) : EvT X e ρ T y := q ▸ h

/-! ### two-place operations on data -/
def R2D (K : Fg) (T : Th) (r : R2) (d1 d2 d : D) : Prop := ∀ x y Hf Hr H, Wd K Hf Hr H T → Is K Hf d1 x → Is K Hf d2 y → ∀ Q : VK, (∀ v H2 Hf2, Ex Hf Hf2 → Wd K Hf2 Hr H2 T → Is K Hf2 d v → Q v H2) → r x y H Q
theorem tOp_D {K : Fg} {r : R2} (hr : R2D K T r d1 d2 d) {σ : L2.St} {H : Hp} {Q : VK} (h : tE K ρ T d σ H Q) : tOp r (tE K ρ T d1) (tE K ρ T d2) σ H Q := by
  obtain ⟨Hf, Hr, w, en, q⟩ := h
  refine ⟨Hf, Hr, w, en, fun x H1 Hf1 e1 w1 i1 => ⟨Hf1, Hr, w1, en.mono e1, fun y H2 Hf2 e2 w2 i2 => ?_⟩⟩
  exact hr x y Hf2 Hr H2 w2 (i1.mono e2) i2 Q fun v H3 Hf3 e3 w3 i3 => q v H3 Hf3 ((e1.trans e2).trans e3) w3 i3
theorem ev_op {op : Operator} {r : R2} (ho : OpR X (binaryOp op) r) (ha : Ev X a ρ T d1) (hb : Ev X b ρ T d2) (hr : R2D X.K T r d1 d2 d) : Ev X (.BinOp a op b pos) ρ T d :=
  PE_imp (pe_op ho ha hb) fun _ _ _ h => tOp_D hr h
theorem ev_cmp {op : CmpOp} {r : R2} (ho : OpR X (compareOp op) r) (ha : Ev X a ρ T d1) (hb : Ev X b ρ T d2) (hr : R2D X.K T r d1 d2 d) (hm : behindInMarks op b = false) : Ev X (.Compare a [op] [b] pos) ρ T d :=
  PE_imp (pe_cmpR ho ha hb hm) fun _ _ _ h => tOp_D hr h
theorem tTest_D {K : Fg} {t : TE} {k : Bool} (h1 : ∀ σ H Q, tE K ρ T (.bl k) σ H Q → t σ H Q) {σ : L2.St} {H : Hp} {Q : Bool → Hp → Prop} (h : tT K ρ T k σ H Q) : tTest t σ H Q := by
  obtain ⟨Hf, Hr, w, en, q⟩ := h
  exact h1 σ H _ ⟨Hf, Hr, w, en, fun v H2 Hf2 e w2 i => ⟨k, is_bl.mp i, q H2 Hf2 e w2⟩⟩
theorem evT_cmp {op : CmpOp} {r : R2} {k : Bool} (ho : OpR X (compareOp op) r) (ha : Ev X a ρ T d1) (hb : Ev X b ρ T d2) (hr : R2D X.K T r d1 d2 (.bl k)) (hm : behindInMarks op b = false) : EvT X (.Compare a [op] [b] pos) ρ T k :=
  PT_imp (pt_cmpR ho ha hb hm) fun _ _ _ h => tTest_D (fun _ _ _ q => tOp_D hr q) h
/-- a value that is a bool, as a test -/
theorem evT_val {k : Bool} (h : Ev X e ρ T (.bl k)) (he : ∀ whole, isTrue e X.env whole = (do let v ← whole; standAt e.pos; holding [v] (truthy v)) := by intro _; rfl) : EvT X e ρ T k :=
  PT_imp (pt_val h he) fun σ H Q ⟨Hf, Hr, w, en, q⟩ => ⟨Hf, Hr, w, en, fun v H2 Hf2 e w2 i => ⟨k, is_bl.mp i, q H2 Hf2 e w2⟩⟩
/-- truth of a list -/
theorem evT_lst {ds : List D} (h : Ev X e ρ T (.lst ds)) (he : ∀ whole, isTrue e X.env whole = (do let v ← whole; standAt e.pos; holding [v] (truthy v)) := by intro _; rfl) : EvT X e ρ T (!ds.isEmpty) :=
  PT_imp (pt_truth h he) fun σ H Q ⟨Hf, Hr, w, en, q⟩ => ⟨Hf, Hr, w, en, fun v H2 Hf2 e w2 i => by
    obtain ⟨p, xs, rfl, hp, hl⟩ := is_lst.mp i
    refine ⟨!xs.isEmpty, .inl ⟨xs, SqL.of (w2.f _ _ hp), rfl⟩, ?_⟩
    have : ds.isEmpty = xs.isEmpty := by
      have := hl.len
      cases ds <;> cases xs <;> simp_all
    rw [← this]; exact q H2 Hf2 e w2⟩

theorem r2_I0 {g : Int → Int → V} {i j : Int} (k : ∀ Hf, Is X.K Hf d (g i j)) : R2D X.K T (rI0 g) (.int i) (.int j) d := fun x y Hf Hr H w hx hy Q q =>
  ⟨i, j, is_int.mp hx, is_int.mp hy, q _ H Hf (Ex.refl _) w (k Hf)⟩
theorem r2_I {C : Int → Int → Prop} {g : Int → Int → V} {i j : Int} (hc : C i j) (k : ∀ Hf, Is X.K Hf d (g i j)) : R2D X.K T (rI C g) (.int i) (.int j) d := fun x y Hf Hr H w hx hy Q q =>
  ⟨i, j, is_int.mp hx, is_int.mp hy, hc, q _ H Hf (Ex.refl _) w (k Hf)⟩
section
variable {i j : Int} (ha : Ev X a ρ T (.int i)) (hb : Ev X b ρ T (.int j))
include ha hb
theorem ev_add : Ev X (.BinOp a .Add b pos) ρ T (.int (i + j)) := ev_op op_add ha hb (r2_I0 fun _ => is_int.mpr rfl)
theorem ev_sub : Ev X (.BinOp a .Sub b pos) ρ T (.int (i - j)) := ev_op op_sub ha hb (r2_I0 fun _ => is_int.mpr rfl)
theorem ev_mul (hc : CMulX i j) : Ev X (.BinOp a .Mult b pos) ρ T (.int (i * j)) := ev_op op_mulX ha hb (r2_I hc fun _ => is_int.mpr rfl)
theorem ev_fdiv (hc : CDivW i j) : Ev X (.BinOp a .FloorDiv b pos) ρ T (.int (i / j)) := ev_op op_fdivW ha hb (r2_I hc fun _ => is_int.mpr rfl)
theorem ev_mod (hc : 0 < j) : Ev X (.BinOp a .Mod b pos) ρ T (.int (i % j)) := ev_op op_mod ha hb (r2_I hc fun _ => is_int.mpr rfl)
theorem ev_shl (hc : CShl i j) : Ev X (.BinOp a .LShift b pos) ρ T (.int (i * 2 ^ j.toNat)) := ev_op op_shlW ha hb (r2_I hc fun _ => is_int.mpr rfl)
theorem ev_shr (hc : 0 ≤ j) : Ev X (.BinOp a .RShift b pos) ρ T (.int (i / 2 ^ j.toNat)) := ev_op op_shr ha hb (r2_I hc fun _ => is_int.mpr rfl)
theorem ev_and : Ev X (.BinOp a .BitAnd b pos) ρ T (.int (Builtin.bitAnd i j)) := ev_op op_and ha hb (r2_I0 fun _ => is_int.mpr rfl)
theorem ev_or : Ev X (.BinOp a .BitOr b pos) ρ T (.int (Builtin.bitOr i j)) := ev_op op_or ha hb (r2_I0 fun _ => is_int.mpr rfl)
theorem ev_xor : Ev X (.BinOp a .BitXor b pos) ρ T (.int (Builtin.bitXor i j)) := ev_op op_xor ha hb (r2_I0 fun _ => is_int.mpr rfl)
theorem ev_lt : Ev X (.Compare a [.Lt] [b] pos) ρ T (.bl (decide (i < j))) := ev_cmp op_lt ha hb (r2_I0 fun _ => is_bl.mpr rfl) (nomark _)
theorem ev_le : Ev X (.Compare a [.LtE] [b] pos) ρ T (.bl (decide (i ≤ j))) := ev_cmp op_le ha hb (r2_I0 fun _ => is_bl.mpr rfl) (nomark _)
theorem ev_gt : Ev X (.Compare a [.Gt] [b] pos) ρ T (.bl (decide (j < i))) := ev_cmp op_gt ha hb (r2_I0 fun _ => is_bl.mpr rfl) (nomark _)
theorem ev_ge : Ev X (.Compare a [.GtE] [b] pos) ρ T (.bl (decide (j ≤ i))) := ev_cmp op_ge ha hb (r2_I0 fun _ => is_bl.mpr rfl) (nomark _)
theorem evT_lt : EvT X (.Compare a [.Lt] [b] pos) ρ T (decide (i < j)) := evT_cmp op_lt ha hb (r2_I0 fun _ => is_bl.mpr rfl) (nomark _)
theorem evT_le : EvT X (.Compare a [.LtE] [b] pos) ρ T (decide (i ≤ j)) := evT_cmp op_le ha hb (r2_I0 fun _ => is_bl.mpr rfl) (nomark _)
theorem evT_gt : EvT X (.Compare a [.Gt] [b] pos) ρ T (decide (j < i)) := evT_cmp op_gt ha hb (r2_I0 fun _ => is_bl.mpr rfl) (nomark _)
theorem evT_ge : EvT X (.Compare a [.GtE] [b] pos) ρ T (decide (j ≤ i)) := evT_cmp op_ge ha hb (r2_I0 fun _ => is_bl.mpr rfl) (nomark _)
end
/-- == and != of scalars -/
def scl : D → Option V
  | .non => some .non | .bl b => some (.bl b) | .int i => some (.int i) | .str x => some (.str x) | _ => none
theorem scl_is {K : Fg} {Hf : Hp} {d : D} {x v : V} (h : scl d = some x) (k : Is K Hf d v) : v = x := by
  cases d <;> simp only [scl, Is] at h k <;> first | (cases h; exact k) | cases h
theorem r2_eq {x y : V} (h1 : scl d1 = some x) (h2 : scl d2 = some y) (hs : scal x y = true) : R2D X.K T rEq d1 d2 (.bl (decide (x = y))) := fun u v Hf Hr H w hx hy Q q => by
  rw [scl_is h1 hx, scl_is h2 hy]
  exact ⟨hs, q _ H Hf (Ex.refl _) w (is_bl.mpr rfl)⟩
theorem r2_ne {x y : V} (h1 : scl d1 = some x) (h2 : scl d2 = some y) (hs : scal x y = true) : R2D X.K T rNe d1 d2 (.bl (!decide (x = y))) := fun u v Hf Hr H w hx hy Q q => by
  rw [scl_is h1 hx, scl_is h2 hy]
  exact ⟨hs, q _ H Hf (Ex.refl _) w (is_bl.mpr rfl)⟩
theorem dV_int {i j : Int} : decide (V.int i = V.int j) = decide (i = j) := by simp
theorem dV_str {i j : Str} : decide (V.str i = V.str j) = decide (i = j) := by simp
theorem dV_bl {i j : Bool} : decide (V.bl i = V.bl j) = decide (i = j) := by simp
section
variable {i j : Int} (ha : Ev X a ρ T (.int i)) (hb : Ev X b ρ T (.int j))
include ha hb
theorem ev_eq : Ev X (.Compare a [.Eq] [b] pos) ρ T (.bl (decide (i = j))) := ev_cmp op_eq ha hb (by rw [← dV_int]; exact r2_eq rfl rfl rfl) (nomark _)
theorem ev_ne : Ev X (.Compare a [.NotEq] [b] pos) ρ T (.bl (!decide (i = j))) := ev_cmp op_ne ha hb (by rw [← dV_int]; exact r2_ne rfl rfl rfl) (nomark _)
theorem evT_eq : EvT X (.Compare a [.Eq] [b] pos) ρ T (decide (i = j)) := evT_cmp op_eq ha hb (by rw [← dV_int]; exact r2_eq rfl rfl rfl) (nomark _)
theorem evT_ne : EvT X (.Compare a [.NotEq] [b] pos) ρ T (!decide (i = j)) := evT_cmp op_ne ha hb (by rw [← dV_int]; exact r2_ne rfl rfl rfl) (nomark _)
end
section
variable {i j : Str} (ha : Ev X a ρ T (.str i)) (hb : Ev X b ρ T (.str j))
include ha hb
theorem ev_eqS : Ev X (.Compare a [.Eq] [b] pos) ρ T (.bl (decide (i = j))) := ev_cmp op_eq ha hb (by rw [← dV_str]; exact r2_eq rfl rfl rfl) (nomark _)
theorem ev_neS : Ev X (.Compare a [.NotEq] [b] pos) ρ T (.bl (!decide (i = j))) := ev_cmp op_ne ha hb (by rw [← dV_str]; exact r2_ne rfl rfl rfl) (nomark _)
theorem evT_eqS : EvT X (.Compare a [.Eq] [b] pos) ρ T (decide (i = j)) := evT_cmp op_eq ha hb (by rw [← dV_str]; exact r2_eq rfl rfl rfl) (nomark _)
theorem evT_neS : EvT X (.Compare a [.NotEq] [b] pos) ρ T (!decide (i = j)) := evT_cmp op_ne ha hb (by rw [← dV_str]; exact r2_ne rfl rfl rfl) (nomark _)
end
/-- bools compared -/
theorem ev_eqB {i j : Bool} (ha : Ev X a ρ T (.bl i)) (hb : Ev X b ρ T (.bl j)) : Ev X (.Compare a [.Eq] [b] pos) ρ T (.bl (decide (i = j))) := ev_cmp op_eq ha hb (by rw [← dV_bl]; exact r2_eq rfl rfl rfl) (nomark _)
theorem ev_neB {i j : Bool} (ha : Ev X a ρ T (.bl i)) (hb : Ev X b ρ T (.bl j)) : Ev X (.Compare a [.NotEq] [b] pos) ρ T (.bl (!decide (i = j))) := ev_cmp op_ne ha hb (by rw [← dV_bl]; exact r2_ne rfl rfl rfl) (nomark _)
theorem evT_neB {i j : Bool} (ha : Ev X a ρ T (.bl i)) (hb : Ev X b ρ T (.bl j)) : EvT X (.Compare a [.NotEq] [b] pos) ρ T (!decide (i = j)) := evT_cmp op_ne ha hb (by rw [← dV_bl]; exact r2_ne rfl rfl rfl) (nomark _)
/-! ### is None -/
def isNonD : D → Bool
  | .non => true | .vl v => decide (v = .non) | _ => false
theorem isNon_is {K : Fg} {Hf : Hp} {d : D} {v : V} (k : Is K Hf d v) : decide (v = .non) = isNonD d := by
  cases d <;> simp only [Is, isNonD] at k ⊢ <;> first | exact k.elim | (subst k; rfl) | (subst k; simp) | (obtain ⟨_, _, rfl, _⟩ := k; simp) | (obtain ⟨_, _, _, rfl, _⟩ := k; simp) | (obtain ⟨_, _, _, _, rfl, _⟩ := k; simp)
theorem ev_isN (ha : Ev X a ρ T d) {j pos'} : Ev X (.Compare a [.Is] [.Constant .none j pos'] pos) ρ T (.bl (isNonD d)) := PE_imp (pe_cmp (pc_isN ha) rfl) fun σ H Q ⟨Hf, Hr, w, en, q⟩ =>
  ⟨Hf, Hr, w, en, fun v H2 Hf2 e w2 i => q _ H2 Hf2 e w2 (is_bl.mpr (by rw [isNon_is i]))⟩
theorem ev_notN (ha : Ev X a ρ T d) {j pos'} : Ev X (.Compare a [.IsNot] [.Constant .none j pos'] pos) ρ T (.bl (!isNonD d)) := PE_imp (pe_cmp (pc_notN ha) rfl) fun σ H Q ⟨Hf, Hr, w, en, q⟩ =>
  ⟨Hf, Hr, w, en, fun v H2 Hf2 e w2 i => q _ H2 Hf2 e w2 (is_bl.mpr (by rw [isNon_is i]))⟩
theorem evT_isN (ha : Ev X a ρ T d) {j pos'} : EvT X (.Compare a [.Is] [.Constant .none j pos'] pos) ρ T (isNonD d) := PT_imp (pt_cmp (pc_isN ha) rfl) fun σ H Q ⟨Hf, Hr, w, en, q⟩ =>
  ⟨Hf, Hr, w, en, fun v H2 Hf2 e w2 i => ⟨_, rfl, by rw [isNon_is i]; exact q H2 Hf2 e w2⟩⟩
theorem evT_notN (ha : Ev X a ρ T d) {j pos'} : EvT X (.Compare a [.IsNot] [.Constant .none j pos'] pos) ρ T (!isNonD d) := PT_imp (pt_cmp (pc_notN ha) rfl) fun σ H Q ⟨Hf, Hr, w, en, q⟩ =>
  ⟨Hf, Hr, w, en, fun v H2 Hf2 e w2 i => ⟨_, rfl, by rw [isNon_is i]; exact q H2 Hf2 e w2⟩⟩
/-! ### and, or, not, if -/
section
variable {rest : List Expr} {k l : Bool}
theorem ev_and1 {op} (h : Ev X a ρ T d) : Ev X (.BoolOp op [a] pos) ρ T d := pe_one h
theorem ev_andV (ha : Ev X a ρ T (.bl k)) (hb : k = true → Ev X (.BoolOp .And (b :: rest) pos) ρ T (.bl l)) : Ev X (.BoolOp .And (a :: b :: rest) pos) ρ T (.bl (k && l)) := by
  cases k with
  | true => exact PE_imp (pe_and ha (hb rfl)) fun σ H Q ⟨Hf, Hr, w, en, q⟩ => ⟨Hf, Hr, w, en, fun v H2 Hf2 e w2 i => ⟨true, is_bl.mp i, Hf2, Hr, w2, en.mono e, fun v H3 Hf3 e3 w3 i3 => q v H3 Hf3 (e.trans e3) w3 i3⟩⟩
  | false =>
    refine PE_imp (t := tAndV (tE X.K ρ T (.bl false)) (fun σ H Q => ∀ pins s, Inv X pins σ H s → wpAny (model X.prog X.w) X.A (eval (.BoolOp .And (b :: rest) pos) X.env) (EP X pins σ Q) X.xe s)) (pe_and ha ⟨fun pins s σ H Q I h => h pins s I⟩) fun σ H Q ⟨Hf, Hr, w, en, q⟩ => ?_
    exact ⟨Hf, Hr, w, en, fun v H2 Hf2 e w2 i => ⟨false, is_bl.mp i, q (.bl false) H2 Hf2 e w2 (is_bl.mpr rfl)⟩⟩
theorem ev_orV (ha : Ev X a ρ T (.bl k)) (hb : k = false → Ev X (.BoolOp .Or (b :: rest) pos) ρ T (.bl l)) : Ev X (.BoolOp .Or (a :: b :: rest) pos) ρ T (.bl (k || l)) := by
  cases k with
  | false => exact PE_imp (pe_or ha (hb rfl)) fun σ H Q ⟨Hf, Hr, w, en, q⟩ => ⟨Hf, Hr, w, en, fun v H2 Hf2 e w2 i => ⟨false, is_bl.mp i, Hf2, Hr, w2, en.mono e, fun v H3 Hf3 e3 w3 i3 => q v H3 Hf3 (e.trans e3) w3 i3⟩⟩
  | true =>
    refine PE_imp (t := tOrV (tE X.K ρ T (.bl true)) (fun σ H Q => ∀ pins s, Inv X pins σ H s → wpAny (model X.prog X.w) X.A (eval (.BoolOp .Or (b :: rest) pos) X.env) (EP X pins σ Q) X.xe s)) (pe_or ha ⟨fun pins s σ H Q I h => h pins s I⟩) fun σ H Q ⟨Hf, Hr, w, en, q⟩ => ?_
    exact ⟨Hf, Hr, w, en, fun v H2 Hf2 e w2 i => ⟨true, is_bl.mp i, q (.bl true) H2 Hf2 e w2 (is_bl.mpr rfl)⟩⟩
theorem ev_not (ha : Ev X a ρ T (.bl k)) : Ev X (.UnaryOp .Not a pos) ρ T (.bl (!k)) := PE_imp (pe_not ha) fun σ H Q ⟨Hf, Hr, w, en, q⟩ =>
  ⟨Hf, Hr, w, en, fun v H2 Hf2 e w2 i => ⟨k, is_bl.mp i, q _ H2 Hf2 e w2 (is_bl.mpr rfl)⟩⟩
/-- not of a test (the truth of any value) -/
theorem evT_not (ha : EvT X a ρ T k) : EvT X (.UnaryOp .Not a pos) ρ T (!k) := PT_imp (pt_not ha) fun σ H Q ⟨Hf, Hr, w, en, q⟩ => ⟨Hf, Hr, w, en, fun H2 Hf2 e w2 => q H2 Hf2 e w2⟩
theorem evW_and1 (ha : EvT X a ρ T k) : EvW X (.BoolOp .And [a] pos) ρ T k := pw_and1 ha
theorem evW_or1 (ha : EvT X a ρ T k) : EvW X (.BoolOp .Or [a] pos) ρ T k := pw_or1 ha
theorem evT_w (h : EvW X e ρ T k) : EvT X e ρ T k := h.pt
theorem evW_and (ha : EvT X a ρ T k) (hb : k = true → EvW X (.BoolOp .And (b :: rest) pos) ρ T l) : EvW X (.BoolOp .And (a :: b :: rest) pos) ρ T (k && l) := by
  cases k with
  | true => exact PW_imp (pw_and ha (hb rfl)) fun σ H Q ⟨Hf, Hr, w, en, q⟩ => ⟨Hf, Hr, w, en, fun H2 Hf2 e w2 => ⟨Hf2, Hr, w2, en.mono e, fun H3 Hf3 e3 w3 => q H3 Hf3 (e.trans e3) w3⟩⟩
  | false =>
    refine PW_imp (t := tAnd (tT X.K ρ T false) (fun σ H Q => ∀ wh pins s, Inv X pins σ H s → wpAny (model X.prog X.w) X.A (isTrue (.BoolOp .And (b :: rest) pos) X.env wh) (TP X pins σ Q) X.xe s)) (pw_and ha ⟨fun wh pins s σ H Q I h => h wh pins s I⟩) fun σ H Q ⟨Hf, Hr, w, en, q⟩ => ?_
    exact ⟨Hf, Hr, w, en, fun H2 Hf2 e w2 => q H2 Hf2 e w2⟩
theorem evW_or (ha : EvT X a ρ T k) (hb : k = false → EvW X (.BoolOp .Or (b :: rest) pos) ρ T l) : EvW X (.BoolOp .Or (a :: b :: rest) pos) ρ T (k || l) := by
  cases k with
  | false => exact PW_imp (pw_or ha (hb rfl)) fun σ H Q ⟨Hf, Hr, w, en, q⟩ => ⟨Hf, Hr, w, en, fun H2 Hf2 e w2 => ⟨Hf2, Hr, w2, en.mono e, fun H3 Hf3 e3 w3 => q H3 Hf3 (e.trans e3) w3⟩⟩
  | true =>
    refine PW_imp (t := tOr (tT X.K ρ T true) (fun σ H Q => ∀ wh pins s, Inv X pins σ H s → wpAny (model X.prog X.w) X.A (isTrue (.BoolOp .Or (b :: rest) pos) X.env wh) (TP X pins σ Q) X.xe s)) (pw_or ha ⟨fun wh pins s σ H Q I h => h wh pins s I⟩) fun σ H Q ⟨Hf, Hr, w, en, q⟩ => ?_
    exact ⟨Hf, Hr, w, en, fun H2 Hf2 e w2 => q H2 Hf2 e w2⟩
theorem ev_if {c : Expr} (hc : EvT X c ρ T k) (ha : k = true → Ev X a ρ T d) (hb : k = false → Ev X b ρ T d) : Ev X (.IfExp c a b pos) ρ T d := by
  have wk : ∀ e, PE X e (fun σ H Q => ∀ pins s, Inv X pins σ H s → wpAny (model X.prog X.w) X.A (eval e X.env) (EP X pins σ Q) X.xe s) := fun e => ⟨fun pins s σ H Q I h => h pins s I⟩
  refine PE_imp (pe_ifExp hc (wk a) (wk b)) fun σ H Q ⟨Hf, Hr, w, en, q⟩ => ⟨Hf, Hr, w, en, fun H2 Hf2 e w2 => ?_⟩
  cases k with
  | true => exact fun pins s I => (ha rfl).run pins s σ H2 Q I ⟨Hf2, Hr, w2, en.mono e, fun v H3 Hf3 e3 w3 i3 => q v H3 Hf3 (e.trans e3) w3 i3⟩
  | false => exact fun pins s I => (hb rfl).run pins s σ H2 Q I ⟨Hf2, Hr, w2, en.mono e, fun v H3 Hf3 e3 w3 i3 => q v H3 Hf3 (e.trans e3) w3 i3⟩
end
/-! ### arguments, displays -/
theorem eva_nil : EvA X [] ρ T [] := PA_imp pa_nil fun σ H Q ⟨Hf, Hr, w, en, q⟩ => q [] H Hf (Ex.refl _) w .nil
theorem eva_cons {ds : List D} (ha : Ev X e ρ T d) (hr : EvA X es ρ T ds) (hs : starEach (e :: es) X.env = (false, eval e X.env) :: starEach es X.env := by rfl) : EvA X (e :: es) ρ T (d :: ds) :=
  PA_imp (pa_cons ha hr hs) fun σ H Q ⟨Hf, Hr, w, en, q⟩ => ⟨Hf, Hr, w, en, fun v H2 Hf2 e w2 i => ⟨Hf2, Hr, w2, en.mono e, fun vs H3 Hf3 e3 w3 i3 => q (v :: vs) H3 Hf3 (e.trans e3) w3 (.cons (i.mono e3) i3)⟩⟩
theorem new_lst {K : Fg} {Hf : Hp} {p : Addr} {xs : List V} {ds : List D} (h : Hf p = none) (i : IsL K Hf ds xs) : Is K (upd Hf p (.lst xs)) (.lst ds) (.ref p) := is_lst.mpr ⟨p, xs, rfl, upd_same, i.mono (Ex.new h)⟩
theorem new_tup {K : Fg} {Hf : Hp} {p : Addr} {xs : List V} {ds : List D} (h : Hf p = none) (i : IsL K Hf ds xs) : Is K (upd Hf p (.tup xs)) (.tup ds) (.ref p) := is_tup.mpr ⟨p, xs, rfl, SqT.of upd_same, i.mono (Ex.new h)⟩
theorem new_dct {K : Fg} {Hf : Hp} {p : Addr} {ks : List Key} {xs : List V} {ds : List D} (h : Hf p = none) (l : ks.length = xs.length) (i : IsL K Hf ds xs) : Is K (upd Hf p (.dK (ks.zip xs))) (.dct ks ds) (.ref p) := is_dct.mpr ⟨p, xs, rfl, upd_same, l, i.mono (Ex.new h)⟩
theorem ev_tup {ds : List D} {j} (h : EvA X es ρ T ds) (hl : ds.length ≤ 100 := by first | decide | simp) : Ev X (.Tuple es j pos) ρ T (.tup ds) := PE_imp (pe_tup h) fun σ H Q ⟨Hf, Hr, w, en, q⟩ =>
  ⟨Hf, Hr, w, en, fun vs H2 Hf2 e w2 i => ⟨by rw [← i.len]; exact Nat.le_trans hl (by decide), fun p hp => q _ _ (upd Hf2 p (.tup vs)) (e.trans (Ex.new (w2.f.back hp))) (w2.new hp) (new_tup (w2.f.back hp) i)⟩⟩
theorem ev_lst {ds : List D} (h : EvA X es ρ T ds) (hl : ds.length ≤ 100 := by first | decide | simp) : Ev X (.List es pos) ρ T (.lst ds) := PE_imp (pe_lst h) fun σ H Q ⟨Hf, Hr, w, en, q⟩ =>
  ⟨Hf, Hr, w, en, fun vs H2 Hf2 e w2 i => ⟨by rw [← i.len]; exact Nat.le_trans hl (by decide), fun p hp => q _ _ (upd Hf2 p (.lst vs)) (e.trans (Ex.new (w2.f.back hp))) (w2.new hp) (new_lst (w2.f.back hp) i)⟩⟩
/-! ### lists: +, *, [i], slices, in -/
theorem ev_cat {xs ys : List D} (ha : Ev X a ρ T (.lst xs)) (hb : Ev X b ρ T (.lst ys)) (hl : xs.length + ys.length ≤ 1000000) : Ev X (.BinOp a .Add b pos) ρ T (.lst (xs ++ ys)) :=
  ev_op op_cat ha hb fun x y Hf Hr H w hx hy Q q => by
    obtain ⟨p, vs, rfl, h1, i1⟩ := is_lst.mp hx
    obtain ⟨p2, vs2, rfl, h2, i2⟩ := is_lst.mp hy
    refine ⟨p, p2, vs, vs2, rfl, rfl, w.f _ _ h1, w.f _ _ h2, by rw [← i1.len, ← i2.len]; exact Nat.le_trans hl (by decide), fun r hr => q _ _ (upd Hf r _) (Ex.new (w.f.back hr)) (w.new hr) (new_lst (w.f.back hr) (i1.app i2))⟩
theorem isL_rep {K : Fg} {Hf : Hp} {ds : List D} {xs : List V} (h : IsL K Hf ds xs) : ∀ n, IsL K Hf (List.replicate n ds).flatten (List.replicate n xs).flatten
  | 0 => .nil
  | n + 1 => by rw [List.replicate_succ, List.flatten_cons, List.replicate_succ, List.flatten_cons]; exact h.app (isL_rep h n)
theorem ev_rep {xs : List D} {n : Int} (ha : Ev X a ρ T (.lst xs)) (hb : Ev X b ρ T (.int n)) (h1 : -1000 ≤ n ∧ n ≤ 1000) (hl : xs.length ≤ 1000) : Ev X (.BinOp a .Mult b pos) ρ T (.lst (List.replicate n.toNat xs).flatten) :=
  ev_op op_rep ha hb fun x y Hf Hr H w hx hy Q q => by
    obtain ⟨p, vs, rfl, h1', i1⟩ := is_lst.mp hx
    refine ⟨p, n, vs, rfl, is_int.mp hy, w.f _ _ h1', by omega, by omega, ?_, fun r hr => q _ _ (upd Hf r _) (Ex.new (w.f.back hr)) (w.new hr) (new_lst (w.f.back hr) (isL_rep i1 _))⟩
    rw [← i1.len]
    have : xs.length * n.toNat ≤ 1000 * 1000 := Nat.mul_le_mul hl (by omega)
    exact Nat.le_trans this (by decide)
theorem isL_atI {K : Fg} {Hf : Hp} {ds : List D} {xs : List V} {i : Int} (h : IsL K Hf ds xs) (e : atI ds i = some d) : ∃ v, atI xs i = some v ∧ Is K Hf d v := by
  unfold atI at e ⊢
  rw [← h.len]
  cases q : ixN ds.length i with
  | none => rw [q] at e; cases e
  | some j => rw [q] at e; exact h.get e
theorem ev_ix {ds : List D} {i : Int} (ha : Ev X a ρ T (.lst ds)) (hb : Ev X b ρ T (.int i)) (he : atI ds i = some d) (hs : PlainIx b := by exact fun _ _ => rfl) : Ev X (.Subscript a b pos) ρ T d :=
  PE_imp (pe_ix ix_list ha hb hs) fun _ _ _ h => tOp_D (d := d) (fun x y Hf Hr H w hx hy Q q => by
    obtain ⟨p, vs, rfl, h1, i1⟩ := is_lst.mp hx
    obtain ⟨v, e, k⟩ := isL_atI i1 he
    exact ⟨p, vs, i, v, rfl, is_int.mp hy, SqL.of (w.f _ _ h1), e, q v H Hf (Ex.refl _) w k⟩) h
theorem ev_ixT {ds : List D} {i : Int} (ha : Ev X a ρ T (.tup ds)) (hb : Ev X b ρ T (.int i)) (he : atI ds i = some d) (hs : PlainIx b := by exact fun _ _ => rfl) : Ev X (.Subscript a b pos) ρ T d :=
  PE_imp (pe_ix ix_tup ha hb hs) fun _ _ _ h => tOp_D (d := d) (fun x y Hf Hr H w hx hy Q q => by
    obtain ⟨p, vs, rfl, h1, i1⟩ := is_tup.mp hx
    obtain ⟨v, e, k⟩ := isL_atI i1 he
    exact ⟨p, vs, i, v, rfl, is_int.mp hy, ex_t w.f h1, e, q v H Hf (Ex.refl _) w k⟩) h
theorem ev_neg {i : Int} (ha : Ev X a ρ T (.int i)) : Ev X (.UnaryOp .USub a pos) ρ T (.int (-i)) := PE_imp (pe_un un_neg ha) fun σ H Q ⟨Hf, Hr, w, en, q⟩ =>
  ⟨Hf, Hr, w, en, fun v H2 Hf2 e w2 k => ⟨i, is_int.mp k, q _ H2 Hf2 e w2 (is_int.mpr rfl)⟩⟩
/-- the items of a slice -/
def cutD (xs : List D) (lo hi : Option Int) : List D := (xs.drop (HT.sIx xs.length 0 lo)).take (HT.sIx xs.length xs.length hi - HT.sIx xs.length 0 lo)
theorem isL_cut {K : Fg} {Hf : Hp} {ds : List D} {xs : List V} (h : IsL K Hf ds xs) (lo hi : Option Int) : IsL K Hf (cutD ds lo hi) (cutV xs lo hi) := by
  unfold cutD cutV
  rw [h.len]
  exact (h.drop _).take _
def tP (K : Fg) (ρ : Rho) (T : Th) (o : Option Int) : TO := fun σ H Q => ∃ Hf Hr, Wd K Hf Hr H T ∧ EnvF K Hf σ ρ ∧ ∀ H2 Hf2, Ex Hf Hf2 → Wd K Hf2 Hr H2 T → Q o H2
abbrev EvP (X : Cx) (o : Option Expr) (ρ : Rho) (T : Th) (i : Option Int) : Prop := PO X o (tP X.K ρ T i)
theorem PO_imp {X : Cx} {e : Option Expr} {t t' : TO} (h : PO X e t) (k : ∀ σ H Q, t' σ H Q → t σ H Q) : PO X e t' := ⟨fun pins s σ H Q I q => h.run pins s σ H Q I (k _ _ _ q)⟩
theorem evp_none : EvP X none ρ T none := PO_imp po_none fun σ H Q ⟨Hf, Hr, w, en, q⟩ => q H Hf (Ex.refl _) w
theorem evp_some {i : Int} (h : Ev X e ρ T (.int i)) : EvP X (some e) ρ T (some i) := PO_imp (po_some h) fun σ H Q ⟨Hf, Hr, w, en, q⟩ => ⟨Hf, Hr, w, en, fun v H2 Hf2 e w2 k => ⟨i, is_int.mp k, q H2 Hf2 e w2⟩⟩
theorem ev_sl {lo hi : Option Expr} {l u : Option Int} {ds : List D} {p2 : Pos} (ha : Ev X a ρ T (.lst ds)) (h1 : EvP X lo ρ T l) (h2 : EvP X hi ρ T u) : Ev X (.Subscript a (.Slice lo hi none p2) pos) ρ T (.lst (cutD ds l u)) :=
  PE_imp (pe_slice sl_list ha h1 h2) fun σ H Q ⟨Hf, Hr, w, en, q⟩ => ⟨Hf, Hr, w, en, fun v H2 Hf2 e w2 k => ⟨Hf2, Hr, w2, en.mono e, fun H3 Hf3 e3 w3 => ⟨Hf3, Hr, w3, (en.mono e).mono e3, fun H4 Hf4 e4 w4 => by
    obtain ⟨p, vs, rfl, hp, i1⟩ := is_lst.mp ((k.mono e3).mono e4)
    exact ⟨p, vs, rfl, SqL.of (w4.f _ _ hp), fun r hr => q _ _ (upd Hf4 r _) (((e.trans e3).trans e4).trans (Ex.new (w4.f.back hr))) (w4.new hr) (new_lst (w4.f.back hr) (isL_cut i1 l u))⟩⟩⟩⟩
/-- the script's slice -/
theorem ev_slS {lo hi : Option Expr} {l u : Option Int} {ds : List D} {p2 : Pos} (ha : Ev X a ρ T (.scr ds)) (h1 : EvP X lo ρ T l) (h2 : EvP X hi ρ T u) : Ev X (.Subscript a (.Slice lo hi none p2) pos) ρ T (.lst (cutD ds l u)) :=
  PE_imp (pe_slice sl_list ha h1 h2) fun σ H Q ⟨Hf, Hr, w, en, q⟩ => ⟨Hf, Hr, w, en, fun v H2 Hf2 e w2 k => ⟨Hf2, Hr, w2, en.mono e, fun H3 Hf3 e3 w3 => ⟨Hf3, Hr, w3, (en.mono e).mono e3, fun H4 Hf4 e4 w4 => by
    obtain ⟨p, vs, rfl, hp, i1⟩ := is_scr.mp ((k.mono e3).mono e4)
    exact ⟨p, vs, rfl, ex_l w4.f hp, fun r hr => q _ _ (upd Hf4 r _) (((e.trans e3).trans e4).trans (Ex.new (w4.f.back hr))) (w4.new hr) (new_lst (w4.f.back hr) (isL_cut i1 l u))⟩⟩⟩⟩
theorem evs_sl {lo hi : Option Expr} {l u : Option Int} {z : Str} {p2 : Pos} (ha : Ev X a ρ T (.str z)) (h1 : EvP X lo ρ T l) (h2 : EvP X hi ρ T u) (hz : z.length ≤ 100000) : Ev X (.Subscript a (.Slice lo hi none p2) pos) ρ T (.str (cutS z l u)) :=
  PE_imp (pe_slice sl_str ha h1 h2) fun σ H Q ⟨Hf, Hr, w, en, q⟩ => ⟨Hf, Hr, w, en, fun v H2 Hf2 e w2 k => ⟨Hf2, Hr, w2, en.mono e, fun H3 Hf3 e3 w3 => ⟨Hf3, Hr, w3, (en.mono e).mono e3, fun H4 Hf4 e4 w4 =>
    ⟨z, is_str.mp k, Nat.le_trans hz (by decide), q _ H4 Hf4 ((e.trans e3).trans e4) w4 (is_str.mpr rfl)⟩⟩⟩⟩
end
end PU
set_option Elab.async false
set_option linter.all false
set_option maxRecDepth 100000
/-! P3: targets, iterables, comprehensions, statements over data. -/
namespace PU
open PySem PySem.Spec PyProof.Rows L2

/-! ### worlds -/
section
variable {K : Fg} {Hf Hr H : Hp} {T : Th}
/-- all that is neither frozen nor a table, held by others -/
def restOf (TB : Th) (Hf H : Hp) : Hp := fun a => match Hf a, TB a with | none, none => H a | _, _ => none
theorem restOf_some {TB : Th} {Hf H : Hp} {a : Addr} {o : HO} (h : restOf TB Hf H a = some o) : Hf a = none ∧ TB a = none ∧ H a = some o := by
  unfold restOf at h
  split at h
  · rename_i e1 e2; exact ⟨e1, e2, h⟩
  · cases h
theorem restOf_of {TB : Th} {Hf H : Hp} {a : Addr} {o : HO} (h1 : Hf a = none) (h3 : TB a = none) (h2 : H a = some o) : restOf TB Hf H a = some o := by
  unfold restOf; rw [h1, h3]; exact h2
def NoObj (T : Th) : Prop := ∀ a C fs ds, T a ≠ some (.obj C fs ds)
theorem TabOnly.noObj {T : Th} (h : TabOnly T) : NoObj T := fun a C fs ds e => by obtain ⟨q, z⟩ := h _ _ e; cases z
/-- T with what another map has -/
def over (T T0 : Th) : Th := fun a => match T0 a with | some c => some c | none => T a
theorem over_le {T T0 : Th} (l : Le T0 T) : over T T0 = T := by
  funext a
  unfold over
  split
  · rename_i c e; exact (l _ _ e).symm
  · rfl
theorem over_tset {T TB : Th} {a : Addr} {c : D} (l : Le TB T) : over T (tset TB a c) = tset T a c := by
  funext b
  unfold over tset
  by_cases h : b = a
  · simp [h]
  · simp only [h, if_false]
    split
    · rename_i c e; exact (l _ _ e).symm
    · rfl
theorem Wd.hide {TB : Th} (w : Wd K Hf Hr H T) (to : NoObj TB) (le : Le TB T) : Wd K Hf (restOf TB Hf H) H TB :=
  ⟨w.f, fun a o h => (restOf_some h).2.2, fun a o h => (by unfold restOf; rw [h]), fun a c h => ⟨(w.tf a c (le _ _ h)).1, by unfold restOf; rw [h]; split <;> simp_all⟩, fun a c h => w.to a c (le _ _ h), fun a C fs ds h => (to _ _ _ _ h).elim⟩
theorem Wd.show {TB TB' : Th} (w : Wd K Hf Hr H T) (to : NoObj TB) (to' : NoObj TB') (hd : ∀ a, TB a = none ↔ TB' a = none) (le : Le TB T) {Hf' H' : Hp} (e : Ex Hf Hf') (w' : Wd K Hf' (restOf TB Hf H) H' TB') : Wd K Hf' Hr H' (over T TB') := by
  have nf : ∀ b o, H b = some o → Hf b = none → TB b = none → Hf' b = none := fun b o h1 h2 h3 => by
    cases q : Hf' b with
    | none => rfl
    | some x =>
      have := w'.d b x q
      rw [restOf_of h2 h3 h1] at this; cases this
  have keep : ∀ b o, H b = some o → Hf b = none → TB b = none → H' b = some o := fun b o h1 h2 h3 => w'.r b o (restOf_of h2 h3 h1)
  have hrf : ∀ b o, Hr b = some o → Hf b = none ∧ TB b = none := fun b o h => by
    constructor
    · cases q : Hf b with
      | none => rfl
      | some x => rw [w.d b x q] at h; cases h
    · cases q : TB b with
      | none => rfl
      | some x => rw [(w.tf b x (le _ _ q)).2] at h; cases h
  have notb : ∀ dx x, H dx = some (.own x) → TB dx = none := fun dx x h => by
    cases q : TB dx with
    | none => rfl
    | some c =>
      have := w.to dx _ (le _ _ q)
      cases c <;> simp only [Own] at this <;> first | exact this.elim | (obtain ⟨_, z, _⟩ := this; rw [h] at z; cases z) | (obtain ⟨_, _, z, _⟩ := this; rw [h] at z; cases z)
  refine ⟨w'.f, fun a o h => keep a o (w.r a o h) (hrf a o h).1 (hrf a o h).2, fun a o h => ?_, fun a c h => ?_, fun a c h => ?_, fun a C fs ds h dx xs h2 => ?_⟩
  · cases q : Hr a with
    | none => rfl
    | some x =>
      have := nf a x (w.r a x q) (hrf a x q).1 (hrf a x q).2
      rw [h] at this; cases this
  · unfold over at h
    cases q : TB' a with
    | some c' =>
      refine ⟨(w'.tf a c' q).1, ?_⟩
      cases z : TB a with
      | some c2 => exact (w.tf a c2 (le _ _ z)).2
      | none => rw [(hd a).mp z] at q; cases q
    | none =>
      rw [q] at h
      obtain ⟨o, ho⟩ := Own.there (w.to a c h)
      exact ⟨nf a o ho (w.tf a c h).1 ((hd a).mpr q), (w.tf a c h).2⟩
  · unfold over at h
    cases q : TB' a with
    | some c' =>
      rw [q] at h; cases h
      exact w'.to a c q
    | none =>
    rw [q] at h
    have q := (hd a).mpr q
    have ho := w.to a c h
    have hn := (w.tf a c h).1
    cases c <;> simp only [Own] at ho ⊢ <;> first | exact ho.elim | skip
    · obtain ⟨xs, p, z⟩ := ho; exact ⟨xs, keep _ _ p hn q, z.mono e⟩
    · obtain ⟨xs, p, l, z⟩ := ho; exact ⟨xs, keep _ _ p hn q, l, z.mono e⟩
    · obtain ⟨dx, xs, p, p2, p3, l, z⟩ := ho
      exact ⟨dx, xs, keep _ _ p hn q, keep _ _ p2 p3 (notb _ _ p2), nf _ _ p2 p3 (notb _ _ p2), l, z.mono e⟩
    · obtain ⟨ps, p, z⟩ := ho; exact ⟨ps, keep _ _ p hn q, z.mono e⟩
    · obtain ⟨ps, p, z⟩ := ho; exact ⟨ps, keep _ _ p hn q, z⟩
  · unfold over at h
    cases q : TB' a with
    | some c' => rw [q] at h; cases h; exact (to' _ _ _ _ q).elim
    | none =>
    rw [q] at h
    have q := (hd a).mpr q
    have ho := w.to a _ h
    have hn := (w.tf a _ h).1
    simp only [Own] at ho
    obtain ⟨dx', xs', p, p2, p3, l, z⟩ := ho
    rw [keep _ _ p hn q] at h2; cases h2
    exact ⟨(w.tx a C fs ds h _ _ p).1, nf _ _ p2 p3 (notb _ _ p2)⟩
/-- others' object D turns -/
theorem Wd.bump {D : Addr} {o o' : HO} (hT : T D = none) (hx : ∀ x, o ≠ .own x) (w : Wd K Hf (upd Hr D o) H T) : Wd K Hf (upd Hr D o') (upd H D o') T := by
  have hD : H D = some o := w.r D o upd_same
  have hf : Hf D = none := by
    cases q : Hf D with
    | none => rfl
    | some x => have := w.d D x q; rw [upd_same] at this; cases this
  refine ⟨fun a u h => ?_, fun a u h => ?_, fun a u h => ?_, fun a c h => ?_, fun a c h => ?_, fun a C fs ds h dx xs h2 => ?_⟩
  · rw [upd_ne (fun q => by rw [q, hf] at h; cases h)]; exact w.f a u h
  · by_cases q : a = D
    · subst q; rw [upd_same] at h ⊢; exact h
    · rw [upd_ne q] at h ⊢; exact w.r a u (by rw [upd_ne q]; exact h)
  · have := w.d a u h
    rw [upd_ne (fun q => by rw [q, hf] at h; cases h)] at this ⊢; exact this
  · have hne : a ≠ D := fun q => by rw [q, hT] at h; cases h
    have := w.tf a c h
    rw [upd_ne hne] at this ⊢; exact this
  · have hne : a ≠ D := fun q => by rw [q, hT] at h; cases h
    have ho := w.to a c h
    cases c <;> simp only [Own] at ho ⊢ <;> first | exact ho.elim | skip
    · obtain ⟨xs, p, q⟩ := ho; exact ⟨xs, by rw [upd_ne hne]; exact p, q⟩
    · obtain ⟨xs, p, l, q⟩ := ho; exact ⟨xs, by rw [upd_ne hne]; exact p, l, q⟩
    · obtain ⟨dx, xs, p, p2, p3, l, q⟩ := ho
      have hd : dx ≠ D := fun q => by rw [q, hD] at p2; exact hx _ (Option.some.inj p2)
      exact ⟨dx, xs, by rw [upd_ne hne]; exact p, by rw [upd_ne hd]; exact p2, p3, l, q⟩
    · obtain ⟨xs, p, q⟩ := ho; exact ⟨xs, by rw [upd_ne hne]; exact p, q⟩
    · obtain ⟨xs, p, q⟩ := ho; exact ⟨xs, by rw [upd_ne hne]; exact p, q⟩
  · have hne : a ≠ D := fun q => by rw [q, hT] at h; cases h
    rw [upd_ne hne] at h2
    have ho := w.to a _ h
    simp only [Own] at ho
    obtain ⟨dx', xs', p, p2, p3, _⟩ := ho
    rw [p] at h2; cases h2
    have hd : dx ≠ D := fun q => by rw [q, hD] at p2; exact hx _ (Option.some.inj p2)
    have := w.tx a C fs ds h _ _ p
    rw [upd_ne hd] at this ⊢; exact this
/-- a new object that others hold -/
theorem Wd.held {D : Addr} {o : HO} (w : Wd K Hf Hr H T) (h : H D = none) : Wd K Hf (upd Hr D o) (upd H D o) T := by
  have hf : Hf D = none := w.f.back h
  have hT : ∀ a c, T a = some c → a ≠ D := fun a c e q => by
    obtain ⟨o, z⟩ := Own.there (w.to a c e)
    rw [q, h] at z; cases z
  refine ⟨w.f.trans (Ex.new h), w.r.upd2, fun a u q => ?_, fun a c q => ?_, fun a c q => Own.mono (w.to a c q) (Ex.refl _) (Ex.new h) fun b o z z2 => z2, fun a C fs ds q dx xs h2 => ?_⟩
  · rw [upd_ne (fun z => by rw [z, hf] at q; cases q)]; exact w.d a u q
  · rw [upd_ne (hT a c q)]; exact w.tf a c q
  · rw [upd_ne (hT a _ q)] at h2
    have ho := w.to a _ q
    simp only [Own] at ho
    obtain ⟨dx', xs', p, p2, p3, _⟩ := ho
    rw [p] at h2; cases h2
    have := w.tx a C fs ds q _ _ p
    rw [upd_ne (ne_of_none p2 h)]; exact this
/-- it is frozen -/
theorem Wd.take {D : Addr} {o : HO} (w : Wd K Hf (upd Hr D o) H T) (h : Hr D = none) : Wd K (upd Hf D o) Hr H T := by
  have hf : Hf D = none := by
    cases q : Hf D with
    | none => rfl
    | some x => have := w.d D x q; rw [upd_same] at this; cases this
  have hT : ∀ a c, T a = some c → a ≠ D := fun a c e q => by
    have := (w.tf a c e).2
    rw [q, upd_same] at this; cases this
  refine ⟨fun a u q => ?_, fun a u q => w.r a u (by rw [upd_ne (fun z => by rw [z, h] at q; cases q)]; exact q), fun a u q => ?_, fun a c q => ?_, fun a c q => ?_, fun a C fs ds q dx xs h2 => ?_⟩
  · by_cases z : a = D
    · subst z; rw [upd_same] at q; cases q; exact w.r a o upd_same
    · rw [upd_ne z] at q; exact w.f a u q
  · by_cases z : a = D
    · rw [z]; exact h
    · rw [upd_ne z] at q
      have := w.d a u q
      rw [upd_ne z] at this; exact this
  · have := w.tf a c q
    rw [upd_ne (hT a c q)] at this ⊢; exact this
  · have ho := w.to a c q
    cases c <;> simp only [Own] at ho ⊢ <;> first | exact ho.elim | skip
    · obtain ⟨xs, p, z⟩ := ho; exact ⟨xs, p, z.mono (Ex.new hf)⟩
    · obtain ⟨xs, p, l, z⟩ := ho; exact ⟨xs, p, l, z.mono (Ex.new hf)⟩
    · obtain ⟨dx, xs, p, p2, p3, l, z⟩ := ho
      have hd : dx ≠ D := fun e => by
        have := (w.tx a _ _ _ q _ _ p).1
        rw [e, upd_same] at this; cases this
      exact ⟨dx, xs, p, p2, by rw [upd_ne hd]; exact p3, l, z.mono (Ex.new hf)⟩
    · obtain ⟨xs, p, z⟩ := ho; exact ⟨xs, p, z.mono (Ex.new hf)⟩
    · obtain ⟨xs, p, z⟩ := ho; exact ⟨xs, p, z⟩
  · have := w.tx a C fs ds q _ _ h2
    have hd : dx ≠ D := fun e => by rw [e, upd_same] at this; cases this.1
    rw [upd_ne hd] at this ⊢; exact this
/-- owned from the start -/
theorem Wd.own {p : Addr} {c : D} {o : HO} (w : Wd K Hf Hr H T) (h : H p = none) (k : Own K Hf (upd H p o) p c) (hx : ∀ C fs ds, c ≠ .obj C fs ds) : Wd K Hf Hr (upd H p o) (tset T p c) := by
  have hf : Hf p = none := w.f.back h
  have hr : Hr p = none := w.r.back h
  have hT : ∀ a c, T a = some c → a ≠ p := fun a c e q => by
    obtain ⟨o, z⟩ := Own.there (w.to a c e)
    rw [q, h] at z; cases z
  refine ⟨w.f.trans (Ex.new h), w.r.trans (Ex.new h), w.d, fun a c' q => ?_, fun a c' q => ?_, fun a C fs ds q dx xs h2 => ?_⟩
  · by_cases z : a = p
    · rw [z]; exact ⟨hf, hr⟩
    · rw [tset_ne z] at q; exact w.tf a c' q
  · by_cases z : a = p
    · subst z; rw [tset_same] at q; cases q; exact k
    · rw [tset_ne z] at q; exact Own.mono (w.to a c' q) (Ex.refl _) (Ex.new h) fun b o z z2 => z2
  · by_cases z : a = p
    · subst z; rw [tset_same] at q; cases q; exact (hx _ _ _ rfl).elim
    · rw [tset_ne z] at q
      rw [upd_ne z] at h2
      exact w.tx a C fs ds q dx xs h2
/-- an owned list or dict turns -/
theorem Wd.turn {p : Addr} {c c' : D} {o : HO} (w : Wd K Hf Hr H T) (hp : T p = some c) (h1 : ∀ C fs ds, c ≠ .obj C fs ds) (h2 : ∀ C fs ds, c' ≠ .obj C fs ds) (k : Own K Hf (upd H p o) p c') : Wd K Hf Hr (upd H p o) (tset T p c') := by
  have hf := (w.tf p c hp).1
  have hr := (w.tf p c hp).2
  have hno : ∀ x, H p ≠ some (.own x) := fun x q => by
    have ho := w.to p c hp
    cases c <;> simp only [Own] at ho <;> first | exact ho.elim | skip
    · obtain ⟨xs, z, _⟩ := ho; rw [q] at z; cases z
    · obtain ⟨xs, z, _⟩ := ho; rw [q] at z; cases z
    · exact h1 _ _ _ rfl
    · obtain ⟨xs, z, _⟩ := ho; rw [q] at z; cases z
    · obtain ⟨xs, z, _⟩ := ho; rw [q] at z; cases z
  refine ⟨fun a u q => ?_, fun a u q => ?_, w.d, fun a c2 q => ?_, fun a c2 q => ?_, fun a C fs ds q dx xs e2 => ?_⟩
  · rw [upd_ne (fun z => by rw [z, hf] at q; cases q)]; exact w.f a u q
  · rw [upd_ne (fun z => by rw [z, hr] at q; cases q)]; exact w.r a u q
  · by_cases z : a = p
    · rw [z]; exact ⟨hf, hr⟩
    · rw [tset_ne z] at q; exact w.tf a c2 q
  · by_cases z : a = p
    · subst z; rw [tset_same] at q; cases q; exact k
    · rw [tset_ne z] at q
      have ho := w.to a c2 q
      cases c2 <;> simp only [Own] at ho ⊢ <;> first | exact ho.elim | skip
      · obtain ⟨xs, e, l⟩ := ho; exact ⟨xs, by rw [upd_ne z]; exact e, l⟩
      · obtain ⟨xs, e, l⟩ := ho; exact ⟨xs, by rw [upd_ne z]; exact e, l⟩
      · obtain ⟨dx, xs, e, e2, l⟩ := ho
        exact ⟨dx, xs, by rw [upd_ne z]; exact e, by rw [upd_ne (fun y => hno _ (by rw [← y]; exact e2))]; exact e2, l⟩
      · obtain ⟨xs, e, l⟩ := ho; exact ⟨xs, by rw [upd_ne z]; exact e, l⟩
      · obtain ⟨xs, e, l⟩ := ho; exact ⟨xs, by rw [upd_ne z]; exact e, l⟩
  · by_cases z : a = p
    · subst z; rw [tset_same] at q; cases q; exact (h2 _ _ _ rfl).elim
    · rw [tset_ne z] at q
      rw [upd_ne z] at e2
      exact w.tx a C fs ds q dx xs e2
/-- an owned object, neither an instance nor its dict, is frozen -/
theorem Wd.freeze {p : Addr} {c : D} {o : HO} (w : Wd K Hf Hr H T) (hp : T p = some c) (e : H p = some o) (hx : ∀ x, o ≠ .own x) : Wd K (upd Hf p o) Hr H (tdel T p) := by
  have hf := (w.tf p _ hp).1
  have hd : ∀ dx x, H dx = some (.own x) → dx ≠ p := fun dx x q z => by rw [z, e] at q; exact hx x (Option.some.inj q)
  refine ⟨fun a u q => ?_, w.r, fun a u q => ?_, fun a c q => ?_, fun a c q => ?_, fun a C fs ds q dx xs' e2 => ?_⟩
  · by_cases z : a = p
    · subst z; rw [upd_same] at q; cases q; exact e
    · rw [upd_ne z] at q; exact w.f a u q
  · by_cases z : a = p
    · rw [z]; exact (w.tf p _ hp).2
    · rw [upd_ne z] at q; exact w.d a u q
  · unfold tdel at q
    split at q
    · cases q
    · rename_i z; rw [upd_ne z]; exact w.tf a c q
  · unfold tdel at q
    split at q
    · cases q
    · rename_i z
      have ho := w.to a c q
      cases c <;> simp only [Own] at ho ⊢ <;> first | exact ho.elim | skip
      · obtain ⟨xs, p1, y⟩ := ho; exact ⟨xs, p1, y.mono (Ex.new hf)⟩
      · obtain ⟨xs, p1, l, y⟩ := ho; exact ⟨xs, p1, l, y.mono (Ex.new hf)⟩
      · obtain ⟨dx, xs, p1, p2, p3, l, y⟩ := ho
        exact ⟨dx, xs, p1, p2, by rw [upd_ne (hd _ _ p2)]; exact p3, l, y.mono (Ex.new hf)⟩
      · obtain ⟨xs, p1, y⟩ := ho; exact ⟨xs, p1, y.mono (Ex.new hf)⟩
      · obtain ⟨xs, p1, y⟩ := ho; exact ⟨xs, p1, y⟩
  · unfold tdel at q
    split at q
    · cases q
    · rename_i z
      have ho := w.to a _ q
      simp only [Own] at ho
      obtain ⟨dx', xs, p1, p2, p3, l, y⟩ := ho
      rw [p1] at e2; cases e2
      have := w.tx a C fs ds q _ _ p1
      rw [upd_ne (hd _ _ p2)]; exact this
/-- an owned instance is frozen, with its dict -/
theorem Wd.freezeO {p C dx : Addr} {fs : List Str} {ds : List D} {xs : List (Str × V)} (w : Wd K Hf Hr H T) (hp : T p = some (.obj C fs ds)) (e : H p = some (.ins C dx xs)) (e2 : H dx = some (.own p)) : Wd K (upd (upd Hf dx (.own p)) p (.ins C dx xs)) Hr H (tdel T p) := by
  have hf := (w.tf p _ hp).1
  have hx := w.tx p _ _ _ hp _ _ e
  have hne : p ≠ dx := ne_of e e2 (by intro z; cases z)
  have hdn : ∀ dx' a, H dx' = some (.own a) → a ≠ p → dx' ≠ dx ∧ dx' ≠ p := fun dx' a q z => ⟨fun y => by rw [y, e2] at q; cases q; exact z rfl, fun y => by rw [y, e] at q; cases q⟩
  have ex2 : Ex Hf (upd (upd Hf dx (.own p)) p (.ins C dx xs)) := (Ex.new hx.2).trans (Ex.new (by rw [upd_ne hne]; exact hf))
  refine ⟨fun a u q => ?_, w.r, fun a u q => ?_, fun a c q => ?_, fun a c q => ?_, fun a C' fs' ds' q dx' xs' e3 => ?_⟩
  · by_cases z : a = p
    · subst z; rw [upd_same] at q; cases q; exact e
    · rw [upd_ne z] at q
      by_cases y : a = dx
      · subst y; rw [upd_same] at q; cases q; exact e2
      · rw [upd_ne y] at q; exact w.f a u q
  · by_cases z : a = p
    · rw [z]; exact (w.tf p _ hp).2
    · rw [upd_ne z] at q
      by_cases y : a = dx
      · rw [y]; exact hx.1
      · rw [upd_ne y] at q; exact w.d a u q
  · unfold tdel at q
    split at q
    · cases q
    · rename_i z
      have hd : a ≠ dx := fun y => by
        obtain ho := w.to a c q
        cases c <;> simp only [Own] at ho <;> first | exact ho.elim | skip
        · obtain ⟨_, p1, _⟩ := ho; rw [y, e2] at p1; cases p1
        · obtain ⟨_, p1, _⟩ := ho; rw [y, e2] at p1; cases p1
        · obtain ⟨_, _, p1, _⟩ := ho; rw [y, e2] at p1; cases p1
        · obtain ⟨_, p1, _⟩ := ho; rw [y, e2] at p1; cases p1
        · obtain ⟨_, p1, _⟩ := ho; rw [y, e2] at p1; cases p1
      rw [upd_ne z, upd_ne hd]; exact w.tf a c q
  · unfold tdel at q
    split at q
    · cases q
    · rename_i z
      have ho := w.to a c q
      cases c <;> simp only [Own] at ho ⊢ <;> first | exact ho.elim | skip
      · obtain ⟨xs, p1, y⟩ := ho; exact ⟨xs, p1, y.mono ex2⟩
      · obtain ⟨xs, p1, l, y⟩ := ho; exact ⟨xs, p1, l, y.mono ex2⟩
      · obtain ⟨dx2, xs, p1, p2, p3, l, y⟩ := ho
        have hh := hdn _ _ p2 z
        exact ⟨dx2, xs, p1, p2, by rw [upd_ne hh.2, upd_ne hh.1]; exact p3, l, y.mono ex2⟩
      · obtain ⟨xs, p1, y⟩ := ho; exact ⟨xs, p1, y.mono ex2⟩
      · obtain ⟨xs, p1, y⟩ := ho; exact ⟨xs, p1, y⟩
  · unfold tdel at q
    split at q
    · cases q
    · rename_i z
      have ho := w.to a _ q
      simp only [Own] at ho
      obtain ⟨dx2, xs, p1, p2, p3, l, y⟩ := ho
      rw [p1] at e3; cases e3
      have hh := hdn _ _ p2 z
      have := w.tx a _ _ _ q _ _ p1
      rw [upd_ne hh.2, upd_ne hh.1]; exact this
end

/-! ### targets -/
def tG (K : Fg) (d : D) (ρ ρ' : Rho) (js : List Nat) : TG := fun v σ H Q => ∃ Hf, Ex Hf H ∧ EnvF K Hf σ ρ ∧ Is K Hf d v ∧ ∀ σ', EnvF K Hf σ' ρ' → (∀ vs, (∀ j ∈ js, j ∈ vs) → wipe σ' vs = wipe σ vs) → Q σ' H
def tGs (K : Fg) (ds : List D) (ρ ρ' : Rho) (js : List Nat) : TGs := fun vs σ H Q => ∃ Hf, Ex Hf H ∧ EnvF K Hf σ ρ ∧ IsL K Hf ds vs ∧ ∀ σ', EnvF K Hf σ' ρ' → (∀ ws, (∀ j ∈ js, j ∈ ws) → wipe σ' ws = wipe σ ws) → Q σ' H
abbrev EvG (X : Cx) (tg : Expr) (d : D) (ρ ρ' : Rho) (js : List Nat) : Prop := PG X tg (tG X.K d ρ ρ' js)
abbrev EvGs (X : Cx) (tg : List Expr) (ds : List D) (ρ ρ' : Rho) (js : List Nat) : Prop := PGs X tg (tGs X.K ds ρ ρ' js)
theorem PG_imp {X : Cx} {e : Expr} {t t' : TG} (h : PG X e t) (k : ∀ v σ H Q, t' v σ H Q → t v σ H Q) : PG X e t' := ⟨fun pins s σ H v u Q I r q => h.run pins s σ H v u Q I r (k _ _ _ _ q)⟩
theorem PGs_imp {X : Cx} {e : List Expr} {t t' : TGs} (h : PGs X e t) (k : ∀ v σ H Q, t' v σ H Q → t v σ H Q) : PGs X e t' := ⟨fun pins s σ H v u Q I r q => h.run pins s σ H v u Q I r (k _ _ _ _ q)⟩
theorem wipe_set (σ : L2.St) (j : Nat) (x : Option V) : ∀ vs : List Nat, j ∈ vs → wipe (σ.set j x) vs = wipe σ vs := by
  have hc : ∀ vs : List Nat, j ∉ vs → wipe (σ.set j x) vs = (wipe σ vs).set j x := by
    intro vs
    induction vs with
    | nil => intro _; rfl
    | cons v vs ih =>
      intro h
      have h1 : j ≠ v := fun e => h (by rw [e]; exact List.mem_cons_self)
      show (wipe (σ.set j x) vs).set v none = ((wipe σ vs).set v none).set j x
      rw [ih fun m => h (List.mem_cons_of_mem _ m), List.set_comm _ _ h1]
  intro vs
  induction vs with
  | nil => intro h; cases h
  | cons v vs ih =>
    intro h
    show (wipe (σ.set j x) vs).set v none = (wipe σ vs).set v none
    by_cases m : j ∈ vs
    · rw [ih m]
    · have e : j = v := by
        rcases List.mem_cons.mp h with q | q
        · exact q
        · exact absurd q m
      subst e
      rw [hc vs m, List.set_set]
section
variable {X : Cx} {ρ ρ' ρ'' : Rho} {d : D} {ds : List D} {js ks : List Nat} {pos : Pos}
theorem evg_n (i : Nat) {x : Str} (hN : X.N.Nodup) (hi : X.N[i]? = some x := by rfl) (hx : Loc X.env.scope x := by first | exact .inl rfl | exact .inr rfl) (hf : X.fn x = true ∨ X.env.scope.names.lookup x = some .local := by first | exact .inl rfl | exact .inr rfl) : EvG X (.Name x pos) d ρ (ρ.set i (some d)) [i] :=
  PG_imp (pg_name hN hi hx hf) fun v σ H Q ⟨Hf, eh, en, k, q⟩ => q _ (en.set i k) fun vs h => wipe_set _ _ _ vs (h i (List.mem_singleton.mpr rfl))
theorem evgs_nil : EvGs X [] [] ρ ρ [] := PGs_imp pgs_nil fun v σ H Q ⟨Hf, eh, en, k, q⟩ => ⟨by simpa only [IsL] using k, q σ en fun _ _ => rfl⟩
theorem evgs_cons {e : Expr} {es : List Expr} (h1 : EvG X e d ρ ρ' js) (h2 : EvGs X es ds ρ' ρ'' ks) (hs : (assignEach (e :: es) X.env).map (·.2) = assign e X.env :: (assignEach es X.env).map (·.2) := by rfl) : EvGs X (e :: es) (d :: ds) ρ ρ'' (js ++ ks) :=
  PGs_imp (pgs_cons h1 h2 hs) fun vs σ H Q ⟨Hf, eh, en, k, q⟩ => by
    simp only [IsL] at k
    obtain ⟨x, r, rfl, k1, k2⟩ := k
    refine ⟨x, r, rfl, Hf, eh, en, k1, fun σ1 en1 w1 => ⟨Hf, eh, en1, k2, fun σ2 en2 w2 => q σ2 en2 fun ws h => ?_⟩⟩
    rw [w2 ws fun j m => h j (List.mem_append_right _ m), w1 ws fun j m => h j (List.mem_append_left _ m)]
theorem evg_tup {es : List Expr} {k : Nat} (hc : X.calm = true) (h : EvGs X es ds ρ ρ' js) (hn : (assignEach es X.env).length = ds.length := by rfl) (hst : (assignEach es X.env).findIdx? (·.1) = none := by rfl) : EvG X (.Tuple es k pos) (.tup ds) ρ ρ' js :=
  PG_imp (pg_tup hc h hn hst) fun v σ H Q ⟨Hf, eh, en, k, q⟩ => by
    obtain ⟨p, xs, rfl, hp, l⟩ := is_tup.mp k
    exact ⟨p, xs, rfl, ex_t eh hp, l.len.symm, Hf, eh, en, l, q⟩
end

/-! ### iterables -/
structure ItD (K : Fg) (J : It) (Hf : Hp) (ds : List D) : Prop where
  ex : ∃ (G : Hp → Prop) (Y : Nat → Hp → V → Hp → Prop), Walk J ds.length G Y ∧ (∀ H, Ex Hf H → G H) ∧ ∀ i H v H' Hf1 Hr T, i < ds.length → Ex Hf Hf1 → Wd K Hf1 Hr H T → Y i H v H' → ∃ d Hf2, ds[i]? = some d ∧ Ex Hf1 Hf2 ∧ Wd K Hf2 Hr H' T ∧ Is K Hf2 d v
def tI (K : Fg) (ρ : Rho) (T : Th) (ds : List D) : TI := fun σ H R => ∃ Hf Hr, Wd K Hf Hr H T ∧ EnvF K Hf σ ρ ∧ ∀ J H2 Hf2, Ex Hf Hf2 → Wd K Hf2 Hr H2 T → ItD K J Hf2 ds → R J H2
abbrev EvI (X : Cx) (tg iter : Expr) (ρ : Rho) (T : Th) (ds : List D) : Prop := PI X tg iter (tI X.K ρ T ds)
theorem PI_imp {X : Cx} {tg e : Expr} {t t' : TI} (h : PI X tg e t) (k : ∀ σ H Q, t' σ H Q → t σ H Q) : PI X tg e t' := ⟨fun pins s σ H Q I q => h.run pins s σ H Q I (k _ _ _ q)⟩
def enumD (ds : List D) : List D := (List.range ds.length).zipWith (fun i d => .tup [.int (i : Nat), d]) ds
def zipD (xs ys : List D) : List D := List.zipWith (fun a b => .tup [a, b]) xs ys
section
variable {X : Cx} {tg e e2 : Expr} {ρ : Rho} {T : Th} {ds xs ys : List D} {pos p tpos : Pos}
theorem evi_list (h : Ev X e ρ T (.lst ds)) : EvI X tg e ρ T ds := PI_imp (pi_list h) fun σ H R ⟨Hf, Hr, w, en, q⟩ => ⟨Hf, Hr, w, en, fun v H2 Hf2 e w2 i => by
  obtain ⟨p, xs, rfl, hp, l⟩ := is_lst.mp i
  refine ⟨p, rfl, ⟨xs, SqL.of (w2.f _ _ hp)⟩, q _ H2 Hf2 e w2 ⟨fun H => SqL X.K H p xs, YAt xs, by rw [l.len]; exact walk_list, fun H e => SqL.of (e _ _ hp), fun i H v H' Hf1 Hr T hi e1 w1 y => ?_⟩⟩
  obtain ⟨rfl, y⟩ := y
  obtain ⟨d, e3, k⟩ := l.getV y
  exact ⟨d, Hf1, e3, Ex.refl _, w1, k.mono e1⟩⟩
theorem evi_tup (h : Ev X e ρ T (.tup ds)) : EvI X tg e ρ T ds := PI_imp (pi_tup h) fun σ H R ⟨Hf, Hr, w, en, q⟩ => ⟨Hf, Hr, w, en, fun v H2 Hf2 e w2 i => by
  obtain ⟨p, xs, rfl, hp, l⟩ := is_tup.mp i
  refine ⟨p, rfl, ⟨xs, ex_t w2.f hp⟩, q _ H2 Hf2 e w2 ⟨fun H => SqT X.K H p xs, YAt xs, by rw [l.len]; exact walk_tup, fun H e => ex_t e hp, fun i H v H' Hf1 Hr T hi e1 w1 y => ?_⟩⟩
  obtain ⟨rfl, y⟩ := y
  obtain ⟨d, e3, k⟩ := l.getV y
  exact ⟨d, Hf1, e3, Ex.refl _, w1, k.mono e1⟩⟩
theorem itd_range {K : Fg} {Hf : Hp} (lo : Int) (n : Nat) : ItD K (Itr lo n) Hf ((List.range n).map fun i => .int (lo + (i : Nat))) :=
  ⟨_, _, by rw [List.length_map, List.length_range]; exact walk_range, fun _ _ => trivial, fun i H v H' Hf1 Hr T hi e1 w1 y => by
    obtain ⟨rfl, rfl⟩ := y
    rw [List.length_map, List.length_range] at hi
    exact ⟨.int (lo + (i : Nat)), Hf1, by rw [List.getElem?_map, List.getElem?_range hi]; rfl, Ex.refl _, w1, is_int.mpr rfl⟩⟩
theorem evi_range1 {n : Int} (hm : X.mg "range" = none) (h : Ev X e ρ T (.int n)) (hn : n ≤ 1000000000) (hn2 : -1000000000 ≤ n) (hg : Gl X "range" := by rfl) (ha : starEach [e] X.env = [(false, eval e X.env)] := by rfl) : EvI X tg (.Call (.Name "range" p) [e] [] pos) ρ T ((List.range n.toNat).map fun i => .int (i : Nat)) :=
  PI_imp (pi_range1 hg hm (eva_cons h eva_nil (by rw [ha]; rfl)) ha) fun σ H R ⟨Hf, Hr, w, en, q⟩ => ⟨Hf, Hr, w, en, fun vs H2 Hf2 e w2 i => by
    simp only [IsL, Is] at i
    obtain ⟨x, r, rfl, rfl, rfl⟩ := i
    refine ⟨n, rfl, by omega, by omega, q _ H2 Hf2 e w2 ?_⟩
    have := itd_range (K := X.K) (Hf := Hf2) 0 n.toNat
    simp only [Int.zero_add] at this
    exact this⟩
theorem evi_range2 {m n : Int} (hm : X.mg "range" = none) (h : Ev X e ρ T (.int m)) (h2 : Ev X e2 ρ T (.int n)) (hn : -1000000000 ≤ m ∧ m ≤ 1000000000 ∧ -1000000000 ≤ n ∧ n ≤ 1000000000) (hg : Gl X "range" := by rfl) (ha : starEach [e, e2] X.env = [(false, eval e X.env), (false, eval e2 X.env)] := by rfl) (hs2 : starEach [e2] X.env = [(false, eval e2 X.env)] := by rfl) :
    EvI X tg (.Call (.Name "range" p) [e, e2] [] pos) ρ T ((List.range (n - m).toNat).map fun i => .int (m + (i : Nat))) :=
  PI_imp (pi_range2 hg hm (eva_cons h (eva_cons h2 eva_nil (by rw [hs2]; rfl)) (by rw [ha, hs2])) ha hs2) fun σ H R ⟨Hf, Hr, w, en, q⟩ => ⟨Hf, Hr, w, en, fun vs H2 Hf2 e w2 i => by
    simp only [IsL, Is] at i
    obtain ⟨x, r, rfl, rfl, y, r2, rfl, rfl, rfl⟩ := i
    exact ⟨m, n, rfl, ⟨by omega, by omega, by omega, by omega⟩, q _ H2 Hf2 e w2 (itd_range m _)⟩⟩
/-- items that come as new pairs -/
theorem itd_pair {K : Fg} {J : It} {Hf : Hp} {n : Nat} {G : Hp → Prop} {f g : Nat → Option V} {ds : List D} (hl : ds.length = n) (w : Walk J n G (YPair f g)) (hG : ∀ H, Ex Hf H → G H)
    (hd : ∀ i x y, f i = some x → g i = some y → ∃ a b, ds[i]? = some (.tup [a, b]) ∧ Is K Hf a x ∧ Is K Hf b y) : ItD K J Hf ds :=
  ⟨G, _, by rw [hl]; exact w, hG, fun i H v H' Hf1 Hr T hi e1 w1 y => by
    obtain ⟨t, x, y, rfl, ht, rfl, ex, ey⟩ := y
    obtain ⟨a, b, e3, k1, k2⟩ := hd i x y ex ey
    exact ⟨_, upd Hf1 t (.tup [x, y]), e3, Ex.new (w1.f.back ht), w1.new ht, new_tup (w1.f.back ht) (.cons (k1.mono e1) (.one (k2.mono e1)))⟩⟩
theorem evi_enum {elts : List Expr} {kk : Nat} (hm : X.mg "enumerate" = none) (h : Ev X e ρ T (.lst ds)) (hg : Gl X "enumerate" := by rfl) (ha : starEach [e] X.env = [(false, eval e X.env)] := by rfl) : EvI X (.Tuple elts kk tpos) (.Call (.Name "enumerate" p) [e] [] pos) ρ T (enumD ds) :=
  PI_imp (pi_enum hg hm (eva_cons h eva_nil (by rw [ha]; rfl)) ha) fun σ H R ⟨Hf, Hr, w, en, q⟩ => ⟨Hf, Hr, w, en, fun vs H2 Hf2 e w2 i => by
    simp only [IsL] at i
    obtain ⟨x, r, rfl, i, rfl⟩ := i
    obtain ⟨p, xs, rfl, hp, l⟩ := is_lst.mp i
    refine ⟨p, xs, rfl, SqL.of (w2.f _ _ hp), q _ H2 Hf2 e w2 (itd_pair (by unfold enumD; rw [List.length_zipWith, List.length_range, Nat.min_self, l.len]) walk_enum (fun H e => SqL.of (e _ _ hp)) fun i x y ex ey => ?_)⟩
    cases ex
    obtain ⟨d, e4, k⟩ := l.getV ey
    refine ⟨.int (i : Nat), d, ?_, is_int.mpr rfl, k⟩
    have hi := (List.getElem?_eq_some_iff.mp e4).1
    unfold enumD
    rw [List.getElem?_zipWith, List.getElem?_range hi, e4]⟩
theorem evi_zip {elts : List Expr} {kk : Nat} (hm : X.mg "zip" = none) (h : Ev X e ρ T (.lst xs)) (h2 : Ev X e2 ρ T (.lst ys)) (hg : Gl X "zip" := by rfl) (hs : starEach [e, e2] X.env = (false, eval e X.env) :: starEach [e2] X.env := by rfl) (hpl : (backTo pos (starEach [e2] X.env)).any (·.1) = false := by rfl) (hs2 : starEach [e2] X.env = [(false, eval e2 X.env)] := by rfl) :
    EvI X (.Tuple elts kk tpos) (.Call (.Name "zip" p) [e, e2] [] pos) ρ T (zipD xs ys) :=
  PI_imp (pi_zip hg hm (eva_cons h (eva_cons h2 eva_nil (by rw [hs2]; rfl)) hs) hs hpl) fun σ H R ⟨Hf, Hr, w, en, q⟩ => ⟨Hf, Hr, w, en, fun vs H2 Hf2 e w2 i => by
    simp only [IsL] at i
    obtain ⟨x, r, rfl, i, y, r2, rfl, i2, rfl⟩ := i
    obtain ⟨p, vs, rfl, hp, l⟩ := is_lst.mp i
    obtain ⟨p2, vs2, rfl, hp2, l2⟩ := is_lst.mp i2
    refine ⟨p, p2, vs, vs2, rfl, SqL.of (w2.f _ _ hp), SqL.of (w2.f _ _ hp2), q _ H2 Hf2 e w2 (itd_pair (n := min vs.length vs2.length) (by unfold zipD; rw [List.length_zipWith, l.len, l2.len]) (walk_zip rfl) (fun H e => ⟨SqL.of (e _ _ hp), SqL.of (e _ _ hp2)⟩) fun i x y ex ey => ?_)⟩
    obtain ⟨d, e4, k⟩ := l.getV ex
    obtain ⟨d2, e5, k2⟩ := l2.getV ey
    exact ⟨d, d2, by unfold zipD; rw [List.getElem?_zipWith, e4, e5], k, k2⟩⟩
theorem evi_rev (hm : X.mg "reversed" = none) (h : Ev X e ρ T (.lst ds)) (hg : Gl X "reversed" := by rfl) (ha : starEach [e] X.env = [(false, eval e X.env)] := by rfl) : EvI X tg (.Call (.Name "reversed" p) [e] [] pos) ρ T ds.reverse :=
  PI_imp (pi_reversed hg hm (eva_cons h eva_nil (by rw [ha]; rfl)) ha) fun σ H R ⟨Hf, Hr, w, en, q⟩ => ⟨Hf, Hr, w, en, fun vs H2 Hf2 e w2 i => by
    simp only [IsL] at i
    obtain ⟨x, r, rfl, i, rfl⟩ := i
    obtain ⟨p, xs, rfl, hp, l⟩ := is_lst.mp i
    refine ⟨p, xs, rfl, SqL.of (w2.f _ _ hp), q _ H2 Hf2 e w2 ⟨_, _, by rw [List.length_reverse, l.len]; exact walk_rev, fun H e => SqL.of (e _ _ hp), fun i H v H' Hf1 Hr T hi e1 w1 y => ?_⟩⟩
    obtain ⟨rfl, y⟩ := y
    obtain ⟨d, e3, k⟩ := l.getV y
    rw [List.length_reverse] at hi
    exact ⟨d, Hf1, by rw [List.getElem?_reverse hi, ← e3, l.len], Ex.refl _, w1, k.mono e1⟩⟩
end
end PU
set_option Elab.async false
set_option linter.all false
set_option maxRecDepth 100000
/-! P4: comprehensions, loops, statements, dicts over data. -/
namespace PU
open PySem PySem.Spec PyProof.Rows L2

/-! ### comprehensions -/
def tTs (K : Fg) (ρ : Rho) (T : Th) (b : Bool) : TT := tT K ρ T b
abbrev EvTs (X : Cx) (es : List Expr) (ρ : Rho) (T : Th) (b : Bool) : Prop := PTs X es (tT X.K ρ T b)
section
variable {X : Cx} {e : Expr} {ρ : Rho} {T : Th} {b : Bool}
theorem evts_nil : EvTs X [] ρ T true := ⟨fun pins s σ H Q I ⟨Hf, Hr, w, en, q⟩ => pts_nil.run pins s σ H Q I (q H Hf (Ex.refl _) w)⟩
theorem evts_one (h : EvT X e ρ T b) : EvTs X [e] ρ T b := pts_one h
end
def wipeR (ρ : Rho) : List Nat → Rho
  | [] => ρ
  | v :: vs => (wipeR ρ vs).set v none
theorem wipeR_length (ρ : Rho) : ∀ vs : List Nat, (wipeR ρ vs).length = ρ.length
  | [] => rfl
  | v :: vs => by unfold wipeR; rw [List.length_set, wipeR_length ρ vs]
theorem EnvF.setN {K : Fg} {Hf : Hp} {σ : L2.St} {ρ : Rho} (h : EnvF K Hf σ ρ) (i : Nat) : EnvF K Hf (σ.set i none) (ρ.set i none) := by
  refine ⟨by simpa using h.len, fun j d' q => ?_⟩
  by_cases e : i = j
  · subst e
    by_cases hi : i < ρ.length
    · rw [List.getElem?_set_self hi] at q; cases q
    · rw [List.getElem?_eq_none (by simpa using hi)] at q; cases q
  · rw [List.getElem?_set_ne e] at q ⊢
    exact h.at_ j d' q
theorem EnvF.wipe {K : Fg} {Hf : Hp} {σ : L2.St} {ρ : Rho} (h : EnvF K Hf σ ρ) : ∀ vs : List Nat, EnvF K Hf (wipe σ vs) (wipeR ρ vs)
  | [] => h
  | v :: vs => (h.wipe vs).setN v
theorem wipe_in (σ : L2.St) (vs : List Nat) : ∀ vs' : List Nat, (∀ v ∈ vs', v ∈ vs) → wipe (wipe σ vs') vs = wipe σ vs
  | [], _ => rfl
  | v :: vs', h => by
    show wipe ((wipe σ vs').set v none) vs = wipe σ vs
    rw [wipe_set _ _ _ _ (h v List.mem_cons_self), wipe_in σ vs vs' fun u m => h u (List.mem_cons_of_mem _ m)]
theorem wipe_wipe (σ : L2.St) (vs : List Nat) : wipe (wipe σ vs) vs = wipe σ vs := wipe_in σ vs vs fun _ m => m
abbrev BX (X : Cx) (s : Shared) (H : Hp) (scope : Scope) (cl : List (Str × Addr)) (C : Addr) (fp : List Addr) : Cx := X.blk s H scope (compEnvC scope cl C X.env) fp
theorem fm_succ {α : Type} (xs : List α) (bf : α → Bool) (g : α → D) (i : Nat) (x : α) (h : xs[i]? = some x) : (((xs.take (i + 1)).filter bf).map g) = ((xs.take i).filter bf).map g ++ (if bf x = true then [g x] else []) := by
  rw [List.take_add_one, h, List.filter_append, List.map_append]
  congr 1
  simp only [Option.toList, List.filter_cons, List.filter_nil]
  split <;> rfl
section
variable {X : Cx} {elt tg iter : Expr} {ifs : List Expr} {scope : Scope} {pos : Pos} {ρ : Rho} {T : Th}
/-- [elt for tg in iter if ifs] -/
theorem tLc_D {α : Type} (xs : List α) (φ : α → D) (bf : α → Bool) (g : α → D) (own : List (Str × Nat)) (ρ' : α → Rho) (js : List Nat) {te : TE} {tt : TT} {tg : TG} (hl : xs.length ≤ 1000000) (hjs : ∀ j ∈ js, j ∈ own.map (·.2))
    (hg : ∀ x v σ H Q, x ∈ xs → tG X.K (φ x) (wipeR ρ (own.map (·.2))) (ρ' x) js v σ H Q → tg v σ H Q) (ht : ∀ x σ H Q, x ∈ xs → tT X.K (ρ' x) T (bf x) σ H Q → tt σ H Q) (he : ∀ x σ H Q, x ∈ xs → bf x = true → tE X.K (ρ' x) T (g x) σ H Q → te σ H Q)
    {σ : L2.St} {H : Hp} {Q : VK} (h : tE X.K ρ T (.lst ((xs.filter bf).map g)) σ H Q) : tLc (tI X.K ρ T (xs.map φ)) tg tt te (own.map (·.2)) σ H Q := by
  obtain ⟨Hf, Hr, w, en, q⟩ := h
  refine ⟨Hf, Hr, w, en, fun J H1 Hf1 e1 w1 it D hD => ?_⟩
  obtain ⟨G, Y, wk, hG, hY⟩ := it.ex
  rw [List.length_map] at wk hY
  have hfD : Hf1 D = none := w1.f.back hD
  have hrD : Hr D = none := w1.r.back hD
  have hTD : T D = none := by
    cases z : T D with
    | none => rfl
    | some c =>
      obtain ⟨o, z2⟩ := Own.there (w1.to D c z)
      rw [hD] at z2; cases z2
  have en1 := en.mono e1
  refine lc_it wk (fun i H' => ∃ Hf' acc, Ex Hf1 Hf' ∧ Wd X.K Hf' (upd Hr D (.lst acc)) H' T ∧ IsL X.K Hf' (((xs.take i).filter bf).map g) acc ∧ acc.length ≤ i) ⟨Hf1, [], Ex.refl _, w1.held hD, by simpa using (IsL.nil), Nat.le_refl _⟩ (fun i H' _ ⟨Hf', acc, e', w', _⟩ => hG H' (e'.trans w'.f)) (fun i v H' H'' hi ⟨Hf', acc, e', w', il, hal⟩ y => ?_) (fun H' ⟨Hf', acc, e', w', il, hal⟩ => ?_)
  · obtain ⟨d, Hf2, hd, e2, w2, k⟩ := hY i H' v H'' Hf' _ T hi e' w' y
    have hx : xs[i]? = some xs[i] := List.getElem?_eq_getElem hi
    have hd' : φ xs[i] = d := by
      rw [List.getElem?_map, hx] at hd
      exact Option.some.inj hd
    subst hd'
    have hm : xs[i] ∈ xs := List.getElem_mem hi
    refine hg _ _ _ _ _ hm ⟨Hf2, w2.f, (en1.mono (e'.trans e2)).wipe _, k, fun σ2 en2 wp => ⟨?_, ht _ _ _ _ hm ⟨Hf2, _, w2, en2, fun H3 Hf3 e3 w3 => ?_⟩⟩⟩
    · rw [wp _ hjs]
      exact wipe_wipe _ _
    · have fs := fm_succ xs bf g i xs[i] hx
      show (if bf xs[i] = true then _ else _ : Prop)
      by_cases hb : bf xs[i] = true
      · rw [if_pos hb] at fs
        rw [if_pos hb]
        refine he _ _ _ _ hm hb ⟨Hf3, _, w3, en2.mono e3, fun v4 H4 Hf4 e4 w4 k4 => ⟨acc, w4.r _ _ upd_same, Nat.lt_of_le_of_lt (show acc.length ≤ 1000000 by omega) (by decide), Hf4, acc ++ [v4], (((e'.trans e2).trans e3).trans e4), Wd.bump hTD (by intro x; exact fun z => nomatch z) w4, ?_, ?_⟩⟩
        · rw [fs]; exact (il.mono ((e2.trans e3).trans e4)).app (.one k4)
        · rw [List.length_append]; simp; omega
      · rw [if_neg hb, List.append_nil] at fs
        rw [if_neg hb]
        exact ⟨Hf3, acc, (e'.trans e2).trans e3, w3, by rw [fs]; exact il.mono (e2.trans e3), by omega⟩
  · rw [List.take_length] at il
    have hfn : Hf' D = none := by
      cases z : Hf' D with
      | none => rfl
      | some u => have := w'.d D u z; rw [upd_same] at this; cases this
    exact q _ _ _ ((e1.trans e').trans (Ex.new hfn)) (w'.take hrD) (new_lst hfn il)
theorem ev_lc {α : Type} (xs : List α) (φ : α → D) (bf : α → Bool) (g : α → D) (own : List (Str × Nat)) (ρ' : α → Rho) (js : List Nat) (hc : X.calm = true) (hN : X.N.Nodup) (hi : EvI X tg iter ρ T (xs.map φ)) (ok : blkC X.N X.env.scope scope own = true) (hl : xs.length ≤ 1000000) (hjs : ∀ j ∈ js, j ∈ own.map (·.2))
    (hg : ∀ x, x ∈ xs → ∀ s H C cl fp, EvG (BX X s H scope cl C fp) tg (φ x) (wipeR ρ (own.map (·.2))) (ρ' x) js)
    (ht : ∀ x, x ∈ xs → ∀ s H C cl fp, EvTs (BX X s H scope cl C fp) ifs (ρ' x) T (bf x))
    (he : ∀ x, x ∈ xs → bf x = true → ∀ s H C cl fp, Ev (BX X s H scope cl C fp) elt (ρ' x) T (g x)) (hs : ∀ x, foldedSetIterable iter X.env x = pure x := by intro _; rfl) :
    Ev X (.ListComp elt [⟨tg, iter, ifs, 0⟩] scope pos) ρ T (.lst ((xs.filter bf).map g)) :=
  PE_imp (pe_lc (own := own) (g := fun v σ H Q => ∃ x ∈ xs, tG X.K (φ x) (wipeR ρ (own.map (·.2))) (ρ' x) js v σ H Q) (tt := fun σ H Q => ∃ x ∈ xs, tT X.K (ρ' x) T (bf x) σ H Q) (te := fun σ H Q => ∃ x ∈ xs, bf x = true ∧ tE X.K (ρ' x) T (g x) σ H Q)
    hc hN hi (blkOk_by ok) (fun s H C cl fp => ⟨fun pins s' σ H' v u Q I r ⟨x, m, q⟩ => (hg x m s H C cl fp).run pins s' σ H' v u Q I r q⟩) (fun s H C cl fp => ⟨fun pins s' σ H' Q I ⟨x, m, q⟩ => (ht x m s H C cl fp).run pins s' σ H' Q I q⟩) (fun s H C cl fp => ⟨fun pins s' σ H' Q I ⟨x, m, hb, q⟩ => (he x m hb s H C cl fp).run pins s' σ H' Q I q⟩) hs)
    fun σ H Q h => tLc_D xs φ bf g own ρ' js hl hjs (fun x v σ H Q m q => ⟨x, m, q⟩) (fun x σ H Q m q => ⟨x, m, q⟩) (fun x σ H Q m hb q => ⟨x, m, hb, q⟩) h
end

/-! ### statements -/
section
variable {X : Cx} {e c o tg iter : Expr} {st : Stmt} {ss a b : List Stmt} {ρ ρ' : Rho} {T T' : Th} {R : Rs} {d : D} {js : List Nat} {pos : Pos}
theorem ru_expr (h : Ev X e ρ T d) (hn : R.nx ρ T) (hs : swapsWith e none pos.line X.env = pure false := by rfl) : RuS X (.Expr e pos) ρ T R := PS_imp (ps_expr h hs) fun D σ H ⟨Hf, Hr, w, en, k⟩ =>
  ⟨Hf, Hr, w, en, fun v H2 Hf2 e2 w2 i => k.1 ρ T σ H2 Hf2 hn e2 w2 (en.mono e2)⟩
theorem ru_ret (h : Ev X e ρ T d) (hn : R.rt d T) : RuS X (.Return (some e) pos) ρ T R := PS_imp (ps_ret h) fun D σ H ⟨Hf, Hr, w, en, k⟩ =>
  ⟨Hf, Hr, w, en, fun v H2 Hf2 e2 w2 i => k.2.1 d T v H2 Hf2 hn e2 w2 i⟩
theorem ru_retN (hn : R.rt .non T) : RuS X (.Return none pos) ρ T R := PS_imp ps_retN fun D σ H ⟨Hf, Hr, w, en, k⟩ => k.2.1 .non T .non H Hf hn (Ex.refl _) w (is_non.mpr rfl)
theorem ru_asg (h : Ev X e ρ T d) (hg : EvG X tg d ρ ρ' js) (hn : R.nx ρ' T) (hs : swapsWithSole [tg] e pos.line X.env = pure false := by rfl) (hw : swappedStores [tg] e X.env = pure none := by rfl)
    (h1 : (assignEach [tg] X.env).map (·.2) = [assign tg X.env] := by rfl) : RuS X (.Assign [tg] e pos) ρ T R := PS_imp (ps_asg h hg hs hw h1) fun D σ H ⟨Hf, Hr, w, en, k⟩ =>
  ⟨Hf, Hr, w, en, fun v H2 Hf2 e2 w2 i => ⟨Hf2, w2.f, en.mono e2, i, fun σ' en' _ => k.1 ρ' T σ' H2 Hf2 hn e2 w2 en'⟩⟩
/-- x = e, a name -/
theorem ru_set (i : Nat) {x : Str} {px : Pos} (hN : X.N.Nodup) (h : Ev X e ρ T d) (hn : R.nx (ρ.set i (some d)) T) (hi : X.N[i]? = some x := by rfl) (hx : Loc X.env.scope x := by first | exact .inl rfl | exact .inr rfl) (hf : X.fn x = true ∨ X.env.scope.names.lookup x = some .local := by first | exact .inl rfl | exact .inr rfl)
    (hs : swapsWithSole [.Name x px] e pos.line X.env = pure false := by rfl) (hw : swappedStores [.Name x px] e X.env = pure none := by rfl) (h1 : (assignEach [.Name x px] X.env).map (·.2) = [assign (.Name x px) X.env] := by rfl) : RuS X (.Assign [.Name x px] e pos) ρ T R :=
  ru_asg h (evg_n i hN hi hx hf) hn hs hw h1
theorem ru_if {k : Bool} (hc : EvT X c ρ T k) (h1 : k = true → Ru X a ρ T R) (h2 : k = false → Ru X b ρ T R) : RuS X (.If c a b pos) ρ T R :=
  PS_imp (ps_if hc (pss_wS (ss := a)) (pss_wS (ss := b))) fun D σ H ⟨Hf, Hr, w, en, q⟩ => ⟨Hf, Hr, w, en, fun H2 Hf2 e2 w2 => by
    cases k with
    | true => exact fun pins s I => (h1 rfl).run pins s σ H2 D I ⟨Hf2, Hr, w2, en.mono e2, q.mono e2⟩
    | false => exact fun pins s I => (h2 rfl).run pins s σ H2 D I ⟨Hf2, Hr, w2, en.mono e2, q.mono e2⟩⟩
theorem ru_break (h : R.bk ρ T) : RuS X (.Break pos) ρ T R := PS_imp ps_break fun D σ H ⟨Hf, Hr, w, en, q⟩ => q.2.2.1 ρ T σ H Hf h (Ex.refl _) w en
theorem ru_cont (h : R.ct ρ T) : RuS X (.Continue pos) ρ T R := PS_imp ps_continue fun D σ H ⟨Hf, Hr, w, en, q⟩ => q.2.2.2 ρ T σ H Hf h (Ex.refl _) w en
/-- a, b = x, y -/
theorem ru_par {i j : Nat} {x y : Str} {e1 e2 : Expr} {d1 d2 : D} {px py pt : Pos} {kt k2 pt2} (hc : X.calm = true) (hN : X.N.Nodup) (hij : i ≠ j) (h : EvA X [e1, e2] ρ T [d1, d2]) (hn : R.nx ((ρ.set i (some d1)).set j (some d2)) T) (hi : X.N[i]? = some x := by rfl) (hj : X.N[j]? = some y := by rfl)
    (hx : X.env.scope.names.lookup x = some .local := by rfl) (hy : X.env.scope.names.lookup y = some .local := by rfl)
    (hw : swappedStores [.Tuple [.Name x px, .Name y py] kt pt] (.Tuple [e1, e2] k2 pt2) X.env = pure (some [x, y]) := by rfl)
    (hs : swapsWithSole [.Tuple [.Name x px, .Name y py] kt pt] (.Tuple [e1, e2] k2 pt2) pos.line X.env = pure false := by rfl) : RuS X (.Assign [.Tuple [.Name x px, .Name y py] kt pt] (.Tuple [e1, e2] k2 pt2) pos) ρ T R :=
  PS_imp (ps_par hc hN hi hj hij hx hy h hw hs) fun D σ H ⟨Hf, Hr, w, en, q⟩ => ⟨Hf, Hr, w, en, fun vs H2 Hf2 e2 w2 i => by
    simp only [IsL] at i
    obtain ⟨v1, r, rfl, k1, v2, r2, rfl, k2, rfl⟩ := i
    exact ⟨v1, v2, rfl, q.1 _ T _ H2 Hf2 hn e2 w2 (((en.mono e2).set _ k1).set _ k2)⟩⟩
/-- while -/
theorem ru_while (P : Nat → Rho → Th → Prop) (m0 : Nat) (h0 : P m0 ρ T) (hp : PassesOwn (model X.prog X.w) X.A X.env X.xe)
    (hs : ∀ m ρ' T', P m ρ' T' → ∃ k, EvT X c ρ' T' k ∧ (k = true → Ru X a ρ' T' { R with nx := fun ρ2 T2 => ∃ m', m' < m ∧ P m' ρ2 T2, ct := fun ρ2 T2 => ∃ m', m' < m ∧ P m' ρ2 T2, bk := R.nx }) ∧ (k = false → R.nx ρ' T')) : RuS X (.While c a [] pos) ρ T R := by
  refine PS_imp (ps_while (tc := fun σ H Q => ∃ ρ' T' k, EvT X c ρ' T' k ∧ tT X.K ρ' T' k σ H Q) hp ⟨fun pins s σ H Q I ⟨ρ', T', k, h, q⟩ => h.run pins s σ H Q I q⟩ (pss_wS (ss := a))) fun D σ H ⟨Hf, Hr, w, en, q⟩ => ?_
  refine ⟨fun m σ' H' => ∃ ρ' T' Hf', P m ρ' T' ∧ Ex Hf Hf' ∧ Wd X.K Hf' Hr H' T' ∧ EnvF X.K Hf' σ' ρ', ⟨m0, ρ, T, Hf, h0, Ex.refl _, w, en⟩, fun m σ' H' ⟨ρ', T', Hf', p, e', w', en'⟩ => ?_⟩
  obtain ⟨k, hk, h1, h2⟩ := hs m ρ' T' p
  refine ⟨ρ', T', k, hk, Hf', Hr, w', en', fun H2 Hf2 e2 w2 => ?_⟩
  cases k with
  | true =>
    refine ⟨fun σ3 H3 => ∃ m', m' < m ∧ ∃ ρ3 T3 Hf3, P m' ρ3 T3 ∧ Ex Hf Hf3 ∧ Wd X.K Hf3 Hr H3 T3 ∧ EnvF X.K Hf3 σ3 ρ3, fun _ _ h => h, fun pins s I => ?_⟩
    refine (h1 rfl).run pins s σ' H2 _ I ⟨Hf2, Hr, w2, en'.mono e2, ⟨fun ρ3 T3 σ3 H3 Hf3 ⟨m', l, p3⟩ e3 w3 en3 => ⟨m', l, ρ3, T3, Hf3, p3, (e'.trans e2).trans e3, w3, en3⟩, fun d T3 v H3 Hf3 hr e3 => (q.mono (e'.trans e2)).2.1 d T3 v H3 Hf3 hr e3, fun ρ3 T3 σ3 H3 Hf3 hr e3 => (q.mono (e'.trans e2)).1 ρ3 T3 σ3 H3 Hf3 hr e3, fun ρ3 T3 σ3 H3 Hf3 ⟨m', l, p3⟩ e3 w3 en3 => ⟨m', l, ρ3, T3, Hf3, p3, (e'.trans e2).trans e3, w3, en3⟩⟩⟩
  | false => exact (q.mono (e'.trans e2)).1 ρ' T' σ' H2 Hf2 (h2 rfl) (Ex.refl _) w2 (en'.mono e2)
/-- for over items -/
theorem ru_for {ds : List D} (P : Nat → Rho → Th → Prop) (h0 : P 0 ρ T) (hp : PassesOwn (model X.prog X.w) X.A X.env X.xe) (hc : X.calm = true) (hi : EvI X tg iter ρ T ds)
    (hs : ∀ i d ρ' T', ds[i]? = some d → P i ρ' T' → ∃ js ρ2, EvG X tg d ρ' ρ2 js ∧ Ru X a ρ2 T' { R with nx := P (i + 1), ct := P (i + 1), bk := R.nx })
    (hd : ∀ ρ' T', P ds.length ρ' T' → R.nx ρ' T') (hf : ∀ x, foldedSetIterable iter X.env x = pure x := by intro _; rfl) : RuS X (.For tg iter a [] pos) ρ T R := by
  refine PS_imp (ps_for (g := fun v σ H Q => ∃ d ρ' ρ2 js, EvG X tg d ρ' ρ2 js ∧ tG X.K d ρ' ρ2 js v σ H Q) hp hc hi ⟨fun pins s σ H v u Q I r ⟨d, ρ', ρ2, js, h, q⟩ => h.run pins s σ H v u Q I r q⟩ (pss_wS (ss := a)) hf) fun D σ H ⟨Hf, Hr, w, en, q⟩ => ?_
  refine ⟨Hf, Hr, w, en, fun J H1 Hf1 e1 w1 it => ?_⟩
  obtain ⟨G, Y, wk, hG, hY⟩ := it.ex
  refine for_it (g := fun v σ H Q => ∃ d ρ' ρ2 js, EvG X tg d ρ' ρ2 js ∧ tG X.K d ρ' ρ2 js v σ H Q) (tb := wS X a) wk (fun i σ' H' => ∃ ρ' T' Hf', P i ρ' T' ∧ Ex Hf1 Hf' ∧ Wd X.K Hf' Hr H' T' ∧ EnvF X.K Hf' σ' ρ') ⟨ρ, T, Hf1, h0, Ex.refl _, w1, en.mono e1⟩ (fun i σ' H' _ ⟨ρ', T', Hf', p, e', w', en'⟩ => hG H' (e'.trans w'.f)) (fun i x σ' H' H'' hlt ⟨ρ', T', Hf', p, e', w', en'⟩ y => ?_) (fun σ' H' ⟨ρ', T', Hf', p, e', w', en'⟩ => (q.mono (e1.trans e')).1 ρ' T' σ' H' Hf' (hd ρ' T' p) (Ex.refl _) w' en')
  obtain ⟨d, Hf2, hd2, e2, w2, k⟩ := hY i H' x H'' Hf' _ T' hlt e' w' y
  obtain ⟨js, ρ2, hg, hb⟩ := hs i d ρ' T' hd2 p
  refine ⟨d, ρ', ρ2, js, hg, Hf2, w2.f, en'.mono e2, k, fun σ3 en3 _ => fun pins s I => ?_⟩
  refine hb.run pins s σ3 H'' _ I ⟨Hf2, Hr, w2, en3, ⟨fun ρ4 T4 σ4 H4 Hf4 p4 e4 w4 en4 => ⟨ρ4, T4, Hf4, p4, (e'.trans e2).trans e4, w4, en4⟩, fun d T4 v H4 Hf4 hr e4 => (q.mono ((e1.trans e').trans e2)).2.1 d T4 v H4 Hf4 hr e4, fun ρ4 T4 σ4 H4 Hf4 hr e4 => (q.mono ((e1.trans e').trans e2)).1 ρ4 T4 σ4 H4 Hf4 hr e4, fun ρ4 T4 σ4 H4 Hf4 p4 e4 w4 en4 => ⟨ρ4, T4, Hf4, p4, (e'.trans e2).trans e4, w4, en4⟩⟩⟩
/-- a slot's owned object is frozen -/
theorem ru_freeze (j : Nat) {p : Addr} {c : D} (hj : ρ[j]? = some (some (.ptr p))) (hp : T p = some c) (h : Ru X ss (ρ.set j (some c)) (tdel T p) R) (ht : (∀ q, c ≠ .tab q) ∧ (∀ q, c ≠ .prs q) := by exact ⟨(fun _ z => nomatch z), (fun _ z => nomatch z)⟩) : Ru X ss ρ T R :=
  PSs_imp h fun D σ H ⟨Hf, Hr, w, en, q⟩ => by
    have ho := w.to p c hp
    have hf := (w.tf p c hp).1
    obtain ⟨v, ev, iv⟩ := en.at_ j _ hj
    have ev' : v = .ref p := is_ptr.mp iv
    have fin : ∀ Hf', Ex Hf Hf' → Wd X.K Hf' Hr H (tdel T p) → Is X.K Hf' c (.ref p) → tS X.K (ρ.set j (some c)) (tdel T p) R D σ H := fun Hf' e' w' i' => by
      refine ⟨Hf', Hr, w', ?_, q.mono e'⟩
      have en2 := (en.mono e').set j i'
      rw [← ev'] at en2
      have : σ.set j (some v) = σ := by
        apply List.ext_getElem?
        intro m
        by_cases hm : j = m
        · subst hm
          rw [List.getElem?_set_self (List.getElem?_eq_some_iff.mp ev).1, ev]
        · rw [List.getElem?_set_ne hm]
      rwa [this] at en2
    cases c <;> simp only [Own] at ho <;> first | exact ho.elim | skip
    · obtain ⟨xs, e, l⟩ := ho
      exact fin _ (Ex.new hf) (w.freeze hp e (fun x z => nomatch z)) (new_lst hf l)
    · obtain ⟨xs, e, l, i⟩ := ho
      exact fin _ (Ex.new hf) (w.freeze hp e (fun x z => nomatch z)) (new_dct hf l i)
    · rename_i C fs ds
      obtain ⟨dx, xs, e, e2, e3, l, i⟩ := ho
      have hx := w.tx p _ _ _ hp _ _ e
      have hne : p ≠ dx := ne_of e e2 (by intro z; cases z)
      have ex2 : Ex Hf (upd (upd Hf dx (.own p)) p (.ins C dx (fs.zip xs))) := (Ex.new hx.2).trans (Ex.new (by rw [upd_ne hne]; exact hf))
      exact fin _ ex2 (w.freezeO hp e e2) (is_obj.mpr ⟨p, dx, xs, rfl, upd_same, by rw [upd_ne hne.symm, upd_same], l, i.mono ex2⟩)
    · exact (ht.1 _ rfl).elim
    · exact (ht.2 _ rfl).elim
/-- x = [] | x = {} -/
theorem ru_newL (i : Nat) {x : Str} {px pl : Pos} (hN : X.N.Nodup) (hn : ∀ p, T p = none → R.nx (ρ.set i (some (.ptr p))) (tset T p (.lst []))) (hi : X.N[i]? = some x := by rfl) (hx : Loc X.env.scope x := by first | exact .inl rfl | exact .inr rfl) (hf : X.fn x = true ∨ X.env.scope.names.lookup x = some .local := by first | exact .inl rfl | exact .inr rfl)
    (hs : swapsWithSole [.Name x px] (.List [] pl) pos.line X.env = pure false := by rfl) (hw : swappedStores [.Name x px] (.List [] pl) X.env = pure none := by rfl) (h1 : (assignEach [.Name x px] X.env).map (·.2) = [assign (.Name x px) X.env] := by rfl) : RuS X (.Assign [.Name x px] (.List [] pl) pos) ρ T R :=
  PS_imp (ps_asg (pe_lst pa_nil) (pg_name hN hi hx hf) hs hw h1) fun D σ H ⟨Hf, Hr, w, en, k⟩ => ⟨Nat.zero_le _, fun p hp => by
    have hT : T p = none := by
      cases z : T p with
      | none => rfl
      | some c => obtain ⟨o, z2⟩ := Own.there (w.to p c z); rw [hp] at z2; cases z2
    exact k.1 _ _ _ _ Hf (hn p hT) (Ex.refl _) (w.own hp (by simp only [Own]; exact ⟨[], upd_same, .nil⟩) (fun _ _ _ z => nomatch z)) (en.set _ (is_ptr.mpr rfl))⟩
theorem ru_newD (i : Nat) {x : Str} {px pl : Pos} (hN : X.N.Nodup) (hn : ∀ p, T p = none → R.nx (ρ.set i (some (.ptr p))) (tset T p (.dct [] []))) (hi : X.N[i]? = some x := by rfl) (hx : Loc X.env.scope x := by first | exact .inl rfl | exact .inr rfl) (hf : X.fn x = true ∨ X.env.scope.names.lookup x = some .local := by first | exact .inl rfl | exact .inr rfl)
    (hs : swapsWithSole [.Name x px] (.Dict [] [] pl) pos.line X.env = pure false := by rfl) (hw : swappedStores [.Name x px] (.Dict [] [] pl) X.env = pure none := by rfl) (h1 : (assignEach [.Name x px] X.env).map (·.2) = [assign (.Name x px) X.env] := by rfl) : RuS X (.Assign [.Name x px] (.Dict [] [] pl) pos) ρ T R :=
  PS_imp (ps_asg pe_dnewK (pg_name hN hi hx hf) hs hw h1) fun D σ H ⟨Hf, Hr, w, en, k⟩ => fun p hp => by
    have hT : T p = none := by
      cases z : T p with
      | none => rfl
      | some c => obtain ⟨o, z2⟩ := Own.there (w.to p c z); rw [hp] at z2; cases z2
    exact k.1 _ _ _ _ Hf (hn p hT) (Ex.refl _) (w.own hp (by simp only [Own]; exact ⟨[], upd_same, rfl, .nil⟩) (fun _ _ _ z => nomatch z)) (en.set _ (is_ptr.mpr rfl))
end
end PU
set_option Elab.async false
set_option linter.all false
set_option maxRecDepth 100000
/-! P5: dicts, fields, calls over data. -/
namespace PU
open PySem PySem.Spec PyProof.Rows L2

/-! ### pairs by keys -/
def lookA {α κ : Type} [DecidableEq κ] (kvs : List (κ × α)) (k : κ) : Option α := (kvs.find? fun kv => decide (kv.1 = k)).map (·.2)
def putA {α κ : Type} [DecidableEq κ] (kvs : List (κ × α)) (k : κ) (v : α) : List (κ × α) :=
  if (kvs.any fun kv => decide (kv.1 = k)) = true then kvs.map (fun kv => if kv.1 = k then (kv.1, v) else kv) else kvs ++ [(k, v)]
/-- a dict by its pairs -/
abbrev D.dk (kvs : List (Key × D)) : D := .dct (kvs.map (·.1)) (kvs.map (·.2))
theorem zip_dk : ∀ (kvs : List (Key × D)) (xs : List V), kvs.length = xs.length → ((kvs.map (·.1)).zip xs).map (·.1) = kvs.map (·.1)
  | [], [], _ => rfl
  | p :: r, x :: xs, h => by
    simp only [List.map_cons, List.zip_cons_cons]
    rw [zip_dk r xs (by simpa using h)]
section
variable {K : Fg} {Hf : Hp}
theorem look_is : ∀ (kvs : List (Key × D)) (xs : List V) (k : Key), IsL K Hf (kvs.map (·.2)) xs → (∀ d, lookA kvs k = some d → ∃ v, valV ((kvs.map (·.1)).zip xs) k = some v ∧ Is K Hf d v) ∧ (lookA kvs k = none → valV ((kvs.map (·.1)).zip xs) k = none)
  | [], xs, k, h => by
    simp only [List.map_nil, IsL] at h
    subst h
    exact ⟨fun d e => (by simp [lookA] at e), fun _ => rfl⟩
  | (a, d) :: r, xs, k, h => by
    simp only [List.map_cons, IsL] at h
    obtain ⟨x, ys, rfl, i, l⟩ := h
    have ih := look_is r ys k l
    simp only [List.map_cons, List.zip_cons_cons]
    by_cases e : a = k
    · rw [valV_pos (p := (a, x)) e]
      refine ⟨fun d' e' => ⟨x, rfl, ?_⟩, fun e' => ?_⟩
      · simp [lookA, List.find?_cons, e] at e'; rw [← e']; exact i
      · simp [lookA, List.find?_cons, e] at e'
    · rw [valV_neg (p := (a, x)) e]
      have el : lookA ((a, d) :: r) k = lookA r k := by simp [lookA, List.find?_cons, e]
      rw [el]; exact ih
theorem put_is (kvs : List (Key × D)) (xs : List V) (k : Key) {d : D} {v : V} (h : IsL K Hf (kvs.map (·.2)) xs) (i : Is K Hf d v) :
    ∃ xs', putK ((kvs.map (·.1)).zip xs) k v = ((putA kvs k d).map (·.1)).zip xs' ∧ ((putA kvs k d).map (·.1)).length = xs'.length ∧ IsL K Hf ((putA kvs k d).map (·.2)) xs' := by
  have any_eq : ∀ (kvs : List (Key × D)) (xs : List V), kvs.length = xs.length → (((kvs.map (·.1)).zip xs).any fun kv => decide (kv.1 = k)) = (kvs.any fun kv => decide (kv.1 = k)) := by
    intro kvs
    induction kvs with
    | nil => intro xs hl; cases xs <;> simp_all
    | cons p r ih =>
      intro xs hl
      cases xs with
      | nil => simp at hl
      | cons x xs => simp only [List.map_cons, List.zip_cons_cons, List.any_cons]; rw [ih xs (by simpa using hl)]
  have hl : kvs.length = xs.length := by have := h.len; simpa using this
  unfold putK putA
  rw [any_eq kvs xs hl]
  split
  · rename_i hany
    clear any_eq hany
    revert xs
    induction kvs with
    | nil =>
      intro xs h hl
      simp only [List.map_nil, IsL] at h
      subst h
      exact ⟨[], rfl, rfl, .nil⟩
    | cons p r ih =>
      intro xs h hl
      obtain ⟨a, d'⟩ := p
      simp only [List.map_cons, IsL] at h
      obtain ⟨x, ys, rfl, i1, l⟩ := h
      obtain ⟨xs', e1, e2, e3⟩ := ih ys l (by simpa using hl)
      by_cases e : a = k
      · refine ⟨v :: xs', ?_, ?_, ?_⟩
        · simp only [List.map_cons, List.zip_cons_cons, e, if_true]; rw [e1]
        · simpa [e] using e2
        · simp only [List.map_cons, e, if_true]; exact .cons i e3
      · refine ⟨x :: xs', ?_, ?_, ?_⟩
        · simp only [List.map_cons, List.zip_cons_cons, e, if_false]; rw [e1]
        · simpa [e] using e2
        · simp only [List.map_cons, e, if_false]; exact .cons i1 e3
  · refine ⟨xs ++ [v], ?_, ?_, ?_⟩
    · rw [List.map_append, List.zip_append (by simpa using hl)]; rfl
    · simp [hl]
    · rw [List.map_append]; exact h.app (.one i)
end
def keyD : Key → D
  | .inl i => .int i
  | .inr x => .str x
theorem keyD_is {K : Fg} {H : Hp} {k : Key} {v : V} (h : Is K H (keyD k) v) : v = kV k := by
  cases k with
  | inl i => exact is_int.mp h
  | inr x => exact is_str.mp h

/-- a container that is read at once: frozen, or owned -/
inductive Ct (T : Th) : D → D → Prop
  | fz (c : D) : Ct T c c
  | own {p : Addr} {c : D} (h : T p = some c) : Ct T (.ptr p) c
theorem ct_dk {K : Fg} {Hf Hr H : Hp} {T : Th} {d : D} {kvs : List (Key × D)} {v : V} (c : Ct T d (.dk kvs)) (w : Wd K Hf Hr H T) (i : Is K Hf d v) : ∃ p xs, v = .ref p ∧ H p = some (.dK ((kvs.map (·.1)).zip xs)) ∧ kvs.length = xs.length ∧ IsL K Hf (kvs.map (·.2)) xs := by
  cases c with
  | fz =>
    obtain ⟨p, xs, rfl, e, l, k⟩ := is_dct.mp i
    exact ⟨p, xs, rfl, w.f _ _ e, by simpa using l, k⟩
  | own h =>
    rename_i p
    have ho := w.to p _ h
    simp only [Own] at ho
    obtain ⟨xs, e, l, k⟩ := ho
    exact ⟨p, xs, is_ptr.mp i, e, by simpa using l, k⟩
theorem ct_lst {K : Fg} {Hf Hr H : Hp} {T : Th} {d : D} {ds : List D} {v : V} (c : Ct T d (.lst ds)) (w : Wd K Hf Hr H T) (i : Is K Hf d v) : ∃ p xs, v = .ref p ∧ H p = some (.lst xs) ∧ IsL K Hf ds xs := by
  cases c with
  | fz =>
    obtain ⟨p, xs, rfl, e, k⟩ := is_lst.mp i
    exact ⟨p, xs, rfl, w.f _ _ e, k⟩
  | own h =>
    rename_i p
    have ho := w.to p _ h
    simp only [Own] at ho
    obtain ⟨xs, e, k⟩ := ho
    exact ⟨p, xs, is_ptr.mp i, e, k⟩
theorem ct_obj {K : Fg} {Hf Hr H : Hp} {T : Th} {d : D} {C : Addr} {fs : List Str} {ds : List D} {v : V} (c : Ct T d (.obj C fs ds)) (w : Wd K Hf Hr H T) (i : Is K Hf d v) : ∃ p dx xs, v = .ref p ∧ H p = some (.ins C dx (fs.zip xs)) ∧ H dx = some (.own p) ∧ fs.length = xs.length ∧ IsL K Hf ds xs := by
  cases c with
  | fz =>
    obtain ⟨p, dx, xs, rfl, e, e2, l, k⟩ := is_obj.mp i
    exact ⟨p, dx, xs, rfl, w.f _ _ e, w.f _ _ e2, l, k⟩
  | own h =>
    rename_i p
    have ho := w.to p _ h
    simp only [Own] at ho
    obtain ⟨dx, xs, e, e2, _, l, k⟩ := ho
    exact ⟨p, dx, xs, is_ptr.mp i, e, e2, l, k⟩

section
variable {X : Cx} {a b c e o f i value : Expr} {es : List Expr} {ρ : Rho} {T : Th} {pos pos' : Pos} {d d1 d2 d3 : D} {R : Rs}
/-! ### dicts are read -/
theorem ev_dget {kvs : List (Key × D)} {k : Key} (hu : X.A.units + 1 < cLine) (ho : Ev X o ρ T d1) (hc : Ct T d1 (.dk kvs)) (hi : Ev X i ρ T (keyD k)) (hk : lookA kvs k = some d) (hs : NoSl i := by exact fun _ _ => rfl) : Ev X (.Subscript o i pos) ρ T d :=
  PE_imp (pe_dget hu ho hi hs) fun σ H Q ⟨Hf, Hr, w, en, q⟩ => ⟨Hf, Hr, w, en, fun v H2 Hf2 e w2 k1 => ⟨Hf2, Hr, w2, en.mono e, fun v2 H3 Hf3 e3 w3 k2 => by
    obtain ⟨p, xs, rfl, hp, l, il⟩ := ct_dk hc w3 (k1.mono e3)
    obtain ⟨v, hv, iv⟩ := (look_is kvs xs k il).1 d hk
    rw [keyD_is k2]
    exact ⟨p, v, rfl, by rw [← hv]; exact DGet.k hp, q v H3 Hf3 (e.trans e3) w3 iv⟩⟩⟩
theorem ev_din {kvs : List (Key × D)} {k : Key} (hu : X.A.units + 1 < cLine) (hi : Ev X i ρ T (keyD k)) (ho : Ev X o ρ T d1) (hc : Ct T d1 (.dk kvs)) (hm : behindInMarks .In o = false := by rfl) : Ev X (.Compare i [.In] [o] pos) ρ T (.bl (lookA kvs k).isSome) :=
  PE_imp (pe_cmp (pc_din hu hi ho) hm) fun σ H Q ⟨Hf, Hr, w, en, q⟩ => ⟨Hf, Hr, w, en, fun v H2 Hf2 e w2 k2 => ⟨Hf2, Hr, w2, en.mono e, fun v2 H3 Hf3 e3 w3 k1 => by
    obtain ⟨p, xs, rfl, hp, l, il⟩ := ct_dk hc w3 k1
    rw [keyD_is k2]
    refine ⟨p, _, rfl, DGet.k hp, q _ H3 Hf3 (e.trans e3) w3 (is_bl.mpr ?_)⟩
    have hh := look_is kvs xs k il
    cases z : lookA kvs k with
    | none => rw [hh.2 z]; rfl
    | some d => obtain ⟨v, hv, _⟩ := hh.1 d z; rw [hv]; rfl⟩⟩
theorem ev_dnin {kvs : List (Key × D)} {k : Key} (hu : X.A.units + 1 < cLine) (hi : Ev X i ρ T (keyD k)) (ho : Ev X o ρ T d1) (hc : Ct T d1 (.dk kvs)) (hm : behindInMarks .NotIn o = false := by rfl) : Ev X (.Compare i [.NotIn] [o] pos) ρ T (.bl (!(lookA kvs k).isSome)) :=
  PE_imp (pe_cmp (pc_dnotin hu hi ho) hm) fun σ H Q ⟨Hf, Hr, w, en, q⟩ => ⟨Hf, Hr, w, en, fun v H2 Hf2 e w2 k2 => ⟨Hf2, Hr, w2, en.mono e, fun v2 H3 Hf3 e3 w3 k1 => by
    obtain ⟨p, xs, rfl, hp, l, il⟩ := ct_dk hc w3 k1
    rw [keyD_is k2]
    refine ⟨p, _, rfl, DGet.k hp, q _ H3 Hf3 (e.trans e3) w3 (is_bl.mpr ?_)⟩
    have hh := look_is kvs xs k il
    cases z : lookA kvs k with
    | none => rw [hh.2 z]; rfl
    | some d => obtain ⟨v, hv, _⟩ := hh.1 d z; rw [hv]; rfl⟩⟩
theorem evT_ev {k : Bool} {op : CmpOp} (h : Ev X (.Compare a [op] [b] pos) ρ T (.bl k)) : EvT X (.Compare a [op] [b] pos) ρ T k → EvT X (.Compare a [op] [b] pos) ρ T k := id
theorem evT_din {kvs : List (Key × D)} {k : Key} (hu : X.A.units + 1 < cLine) (hi : Ev X i ρ T (keyD k)) (ho : Ev X o ρ T d1) (hc : Ct T d1 (.dk kvs)) (hm : behindInMarks .In o = false := by rfl) : EvT X (.Compare i [.In] [o] pos) ρ T (lookA kvs k).isSome :=
  PT_imp (pt_cmp (pc_din hu hi ho) hm) fun σ H Q ⟨Hf, Hr, w, en, q⟩ => ⟨Hf, Hr, w, en, fun v H2 Hf2 e w2 k2 => ⟨Hf2, Hr, w2, en.mono e, fun v2 H3 Hf3 e3 w3 k1 => by
    obtain ⟨p, xs, rfl, hp, l, il⟩ := ct_dk hc w3 k1
    rw [keyD_is k2]
    refine ⟨p, _, rfl, DGet.k hp, _, rfl, ?_⟩
    have hh := look_is kvs xs k il
    have eq : (valV ((kvs.map (·.1)).zip xs) k).isSome = (lookA kvs k).isSome := by
      cases z : lookA kvs k with
      | none => rw [hh.2 z]; rfl
      | some d => obtain ⟨v, hv, _⟩ := hh.1 d z; rw [hv]; rfl
    rw [eq]
    exact q H3 Hf3 (e.trans e3) w3⟩⟩
theorem evT_dnin {kvs : List (Key × D)} {k : Key} (hu : X.A.units + 1 < cLine) (hi : Ev X i ρ T (keyD k)) (ho : Ev X o ρ T d1) (hc : Ct T d1 (.dk kvs)) (hm : behindInMarks .NotIn o = false := by rfl) : EvT X (.Compare i [.NotIn] [o] pos) ρ T (!(lookA kvs k).isSome) :=
  PT_imp (pt_cmp (pc_dnotin hu hi ho) hm) fun σ H Q ⟨Hf, Hr, w, en, q⟩ => ⟨Hf, Hr, w, en, fun v H2 Hf2 e w2 k2 => ⟨Hf2, Hr, w2, en.mono e, fun v2 H3 Hf3 e3 w3 k1 => by
    obtain ⟨p, xs, rfl, hp, l, il⟩ := ct_dk hc w3 k1
    rw [keyD_is k2]
    refine ⟨p, _, rfl, DGet.k hp, _, rfl, ?_⟩
    have hh := look_is kvs xs k il
    have eq : (valV ((kvs.map (·.1)).zip xs) k).isSome = (lookA kvs k).isSome := by
      cases z : lookA kvs k with
      | none => rw [hh.2 z]; rfl
      | some d => obtain ⟨v, hv, _⟩ := hh.1 d z; rw [hv]; rfl
    rw [eq]
    exact q H3 Hf3 (e.trans e3) w3⟩⟩
/-- d.get(k, x) -/
theorem ev_dget2 {kvs : List (Key × D)} {k : Key} {apos : Pos} (hu : X.A.units + 1 < cLine) (ho : Ev X o ρ T d1) (hc : Ct T d1 (.dk kvs)) (hi : Ev X i ρ T (keyD k)) (hf : Ev X f ρ T d2) (hd : (lookA kvs k).getD d2 = d) (m : M2 X o "get" apos i f pos := by exact ⟨rfl, rfl, rfl, rfl⟩) : Ev X (.Call (.Attribute o "get" apos) [i, f] [] pos) ρ T d :=
  PE_imp (pe_dget2 hu ho hi hf m) fun σ H Q ⟨Hf, Hr, w, en, q⟩ => ⟨Hf, Hr, w, en, fun v H2 Hf2 e w2 k1 => by
    obtain ⟨p, xs, rfl, hp, l, il⟩ := ct_dk hc w2 k1
    refine ⟨p, rfl, .inl ⟨_, .inl hp⟩, Hf2, Hr, w2, en.mono e, fun v2 H3 Hf3 e3 w3 k2 => ⟨Hf3, Hr, w3, (en.mono e).mono e3, fun v4 H4 Hf4 e4 w4 k4 => ?_⟩⟩
    obtain ⟨p', xs', ep, hp', l', il'⟩ := ct_dk hc w4 ((k1.mono e3).mono e4)
    cases ep
    rw [keyD_is k2]
    refine ⟨_, DGet.k hp', ?_⟩
    have hh := look_is kvs xs' k il'
    cases z : lookA kvs k with
    | none =>
      rw [hh.2 z]
      rw [z] at hd
      exact q _ H4 Hf4 ((e.trans e3).trans e4) w4 (by rw [← hd]; exact k4)
    | some d' =>
      obtain ⟨v, hv, iv⟩ := hh.1 d' z
      rw [hv]
      rw [z] at hd
      exact q _ H4 Hf4 ((e.trans e3).trans e4) w4 (by rw [← hd]; exact iv)⟩
/-- owned lists are read -/
theorem ev_ixO {ds : List D} {n : Int} (ha : Ev X a ρ T d1) (hc : Ct T d1 (.lst ds)) (hb : Ev X b ρ T (.int n)) (he : atI ds n = some d) (hs : PlainIx b := by exact fun _ _ => rfl) : Ev X (.Subscript a b pos) ρ T d :=
  PE_imp (pe_ix ix_list ha hb hs) fun _ _ _ h => tOp_D (d := d) (fun x y Hf Hr H w hx hy Q q => by
    obtain ⟨p, vs, rfl, h1, i1⟩ := ct_lst hc w hx
    obtain ⟨v, e, k⟩ := isL_atI i1 he
    exact ⟨p, vs, n, v, rfl, is_int.mp hy, SqL.of h1, e, q v H Hf (Ex.refl _) w k⟩) h
/-! ### dicts, lists are changed -/
theorem ru_dput {kvs : List (Key × D)} {k : Key} {p : Addr} (hu : X.A.units + 1 < cLine) (ho : Ev X o ρ T (.ptr p)) (hp : T p = some (.dk kvs)) (hi : Ev X i ρ T (keyD k)) (hv : Ev X value ρ T d) (hl : kvs.length ≤ 1000000) (hn : R.nx ρ (tset T p (.dk (putA kvs k d))))
    (hs : swapsWith value (some (.Subscript o i pos')) pos.line X.env = pure false := by rfl) : RuS X (.Assign [.Subscript o i pos'] value pos) ρ T R :=
  PS_imp (ps_dput hu ho hi hv hs) fun D σ H ⟨Hf, Hr, w, en, q⟩ => ⟨Hf, Hr, w, en, fun v H2 Hf2 e w2 k1 => ⟨Hf2, Hr, w2, en.mono e, fun v3 H3 Hf3 e3 w3 k3 => ⟨Hf3, Hr, w3, (en.mono e).mono e3, fun v4 H4 Hf4 e4 w4 k4 => by
    have ho' := w4.to p _ hp
    simp only [Own] at ho'
    obtain ⟨xs, hh, l, il⟩ := ho'
    obtain ⟨xs', e1, e2, e5⟩ := put_is kvs xs k il ((k1.mono e3).mono e4)
    rw [keyD_is k4, is_ptr.mp k3]
    refine ⟨p, _, rfl, DPut.k hh ?_, ?_⟩
    · rw [List.length_zip, ← l, Nat.min_self, List.length_map]; exact Nat.lt_of_le_of_lt hl (by decide)
    · rw [e1]
      exact q.1 _ _ _ _ Hf4 hn ((e.trans e3).trans e4) (w4.turn hp (fun _ _ _ z => nomatch z) (fun _ _ _ z => nomatch z) (by simp only [Own]; exact ⟨xs', upd_same, e2, e5⟩)) (((en.mono e).mono e3).mono e4)⟩⟩⟩
theorem ru_setL {ds : List D} {n : Int} {j : Nat} {p : Addr} (ho : Ev X o ρ T (.ptr p)) (hp : T p = some (.lst ds)) (hi : Ev X i ρ T (.int n)) (hv : Ev X value ρ T d) (hj : ixN ds.length n = some j) (hn : R.nx ρ (tset T p (.lst (ds.set j d))))
    (hs : swapsWithSole [.Subscript o i pos'] value pos.line X.env = pure false := by rfl) (hw : swappedStores [.Subscript o i pos'] value X.env = pure none := by rfl) (h1 : (assignEach [.Subscript o i pos'] X.env).map (·.2) = [assign (.Subscript o i pos') X.env] := by rfl)
    (ha : ∀ v, assign (.Subscript o i pos') X.env v = (do
      let ov ← holding [v] (eval o X.env)
      let iv ← holding [v, ov] (eval i X.env)
      standAt pos'
      holding [v, ov, iv] (setItem ov iv v)
      release [v, ov, iv] []) := by intro _; rfl) : RuS X (.Assign [.Subscript o i pos'] value pos) ρ T R :=
  PS_imp (ps_asg hv (pg_sub ho hi set_list ha) hs hw h1) fun D σ H ⟨Hf, Hr, w, en, q⟩ => ⟨Hf, Hr, w, en, fun v H2 Hf2 e w2 k1 => ⟨Hf2, Hr, w2, en.mono e, fun v3 H3 Hf3 e3 w3 k3 => ⟨Hf3, Hr, w3, (en.mono e).mono e3, fun v4 H4 Hf4 e4 w4 k4 => by
    have ho' := w4.to p _ hp
    simp only [Own] at ho'
    obtain ⟨xs, hh, il⟩ := ho'
    rw [is_int.mp k4, is_ptr.mp k3]
    refine ⟨p, xs, n, j, rfl, rfl, hh, by rw [← il.len]; exact hj, ?_⟩
    exact q.1 _ _ _ _ Hf4 hn ((e.trans e3).trans e4) (w4.turn hp (fun _ _ _ z => nomatch z) (fun _ _ _ z => nomatch z) (by simp only [Own]; exact ⟨_, upd_same, il.set ((k1.mono e3).mono e4) j⟩)) (((en.mono e).mono e3).mono e4)⟩⟩⟩
/-- x.append(e) as a statement -/
theorem ru_app {ds : List D} {p : Addr} {apos cpos : Pos} (ho : Ev X o ρ T (.ptr p)) (hp : T p = some (.lst ds)) (hv : Ev X e ρ T d) (hl : ds.length ≤ 1000000) (hn : R.nx ρ (tset T p (.lst (ds ++ [d]))))
    (hs : swapsWith (.Call (.Attribute o "append" apos) [e] [] cpos) none pos.line X.env = pure false := by rfl)
    (hbase : attributeBase o "append" X.env (eval o X.env) = eval o X.env := by rfl)
    (hfew : ((backTo cpos (starEach [e] X.env)).all (fun x => !x.1) && (backToKw cpos (keywordEach [] X.env)).all (fun x => x.1.isSome)
      && decide ((e :: []).length + ([] : List Keyword).length + (if ([] : List Keyword).isEmpty then 0 else 1) < 30)) = true := by rfl)
    (hline : (apos.endLine == cpos.line) = true := by rfl) (hse : starEach [e] X.env = (false, eval e X.env) :: starEach [] X.env := by rfl) : RuS X (.Expr (.Call (.Attribute o "append" apos) [e] [] cpos) pos) ρ T R :=
  PS_imp (ps_expr (pe_bm PySem.F.plainAttrs_list PySem.F.slot_list_append PySem.F.type_list_append mt_append ho (pa_cons hv pa_nil hse) hbase hfew hline hse rfl) hs) fun D σ H ⟨Hf, Hr, w, en, q⟩ => ⟨Hf, Hr, w, en, fun v H2 Hf2 e w2 k1 => by
    have ho' := w2.to p _ hp
    simp only [Own] at ho'
    obtain ⟨xs, hh, il⟩ := ho'
    rw [is_ptr.mp k1]
    refine ⟨.inl ⟨rfl, xs, SqL.of hh⟩, Hf2, Hr, w2, en.mono e, fun v3 H3 Hf3 e3 w3 k3 => ?_⟩
    have ho' := w3.to p _ hp
    simp only [Own] at ho'
    obtain ⟨xs, hh, il⟩ := ho'
    refine ⟨p, xs, v3, rfl, rfl, hh, by rw [← il.len]; exact Nat.lt_of_le_of_lt hl (by decide), ?_⟩
    exact q.1 _ _ _ _ Hf3 hn (e.trans e3) (w3.turn hp (fun _ _ _ z => nomatch z) (fun _ _ _ z => nomatch z) (by simp only [Own]; exact ⟨_, upd_same, il.app (.one k3)⟩)) ((en.mono e).mono e3)⟩

/-! ### fields -/
theorem ev_fld {C : Addr} {fs : List Str} {ds : List D} {x : Str} (he : Ev X e ρ T d1) (hc : Ct T d1 (.obj C fs ds)) (cl : Cls X.K C) (na : NoAttr X.K C x) (hl : lookA (fs.zip ds) x = some d) (hb : attributeBase e x X.env (eval e X.env) = eval e X.env := by rfl) : Ev X (.Attribute e x pos) ρ T d :=
  PE_imp (pe_fld he hb) fun σ H Q ⟨Hf, Hr, w, en, q⟩ => ⟨Hf, Hr, w, en, fun v H2 Hf2 e w2 k => by
    obtain ⟨p, dx, xs, rfl, h1, h2, l, il⟩ := ct_obj hc w2 k
    have key : ∀ (fs : List Str) (ds : List D) (xs : List V), IsL X.K Hf2 ds xs → lookA (fs.zip ds) x = some d → ∃ v, (fs.zip xs).lookup x = some v ∧ Is X.K Hf2 d v := by
      intro fs
      induction fs with
      | nil => intro ds xs _ h; simp [lookA] at h
      | cons f fs ih =>
        intro ds xs il h
        cases ds with
        | nil => simp [lookA] at h
        | cons d' ds =>
          simp only [IsL] at il
          obtain ⟨y, ys, rfl, i1, i2⟩ := il
          simp only [List.zip_cons_cons]
          by_cases e : f = x
          · subst e
            have : d' = d := by simpa [lookA] using h
            exact ⟨y, by simp, this ▸ i1⟩
          · have h' : lookA (fs.zip ds) x = some d := by simpa [lookA, List.find?_cons, e] using h
            obtain ⟨v, hv, iv⟩ := ih ds ys i2 h'
            refine ⟨v, ?_, iv⟩
            rw [List.lookup_cons]
            have : (x == f) = false := by simpa using fun z => e z.symm
            rw [this]; exact hv
    obtain ⟨v, hv, iv⟩ := key fs ds xs il hl
    exact ⟨p, C, dx, _, v, rfl, h1, cl, na, hv, q v H2 Hf2 e w2 iv⟩⟩
theorem putF_zip (x : Str) (v : V) : ∀ (fs : List Str) (xs : List V), fs.length = xs.length → x ∉ fs → putF x v (fs.zip xs) = (fs ++ [x]).zip (xs ++ [v])
  | [], [], _, _ => rfl
  | f :: fs, y :: ys, h, hn => by
    have h1 : f ≠ x := fun e => hn (by rw [e]; exact List.mem_cons_self)
    simp only [List.zip_cons_cons, List.cons_append, putF, if_neg h1]
    rw [putF_zip x v fs ys (by simpa using h) fun m => hn (List.mem_cons_of_mem _ m)]
theorem Wd.fld {K : Fg} {Hf Hr H : Hp} {T : Th} {p C dx : Addr} {fs fs' : List Str} {ds ds' : List D} {xs xs' : List V} (w : Wd K Hf Hr H T) (hp : T p = some (.obj C fs ds)) (e : H p = some (.ins C dx (fs.zip xs))) (e2 : H dx = some (.own p)) (l : fs'.length = xs'.length) (k : IsL K Hf ds' xs') : Wd K Hf Hr (upd H p (.ins C dx (fs'.zip xs'))) (tset T p (.obj C fs' ds')) := by
  have hf := (w.tf p _ hp).1
  have hr := (w.tf p _ hp).2
  have hx := w.tx p _ _ _ hp _ _ e
  have hne : dx ≠ p := ne_of e2 e (by intro z; cases z)
  have hno : ∀ y, H p ≠ some (.own y) := fun y q => by rw [e] at q; cases q
  refine ⟨fun a u q => ?_, fun a u q => ?_, w.d, fun a c2 q => ?_, fun a c2 q => ?_, fun a C2 fs2 ds2 q dx2 ys e3 => ?_⟩
  · rw [upd_ne (fun z => by rw [z, hf] at q; cases q)]; exact w.f a u q
  · rw [upd_ne (fun z => by rw [z, hr] at q; cases q)]; exact w.r a u q
  · by_cases z : a = p
    · rw [z]; exact ⟨hf, hr⟩
    · rw [tset_ne z] at q; exact w.tf a c2 q
  · by_cases z : a = p
    · subst z; rw [tset_same] at q; cases q
      simp only [Own]
      exact ⟨dx, xs', upd_same, by rw [upd_ne hne]; exact e2, hx.2, l, k⟩
    · rw [tset_ne z] at q
      have ho := w.to a c2 q
      cases c2 <;> simp only [Own] at ho ⊢ <;> first | exact ho.elim | skip
      · obtain ⟨xs, e, l⟩ := ho; exact ⟨xs, by rw [upd_ne z]; exact e, l⟩
      · obtain ⟨xs, e, l⟩ := ho; exact ⟨xs, by rw [upd_ne z]; exact e, l⟩
      · obtain ⟨dx, xs, e, e2, l⟩ := ho
        exact ⟨dx, xs, by rw [upd_ne z]; exact e, by rw [upd_ne (fun y => hno _ (by rw [← y]; exact e2))]; exact e2, l⟩
      · obtain ⟨xs, e, l⟩ := ho; exact ⟨xs, by rw [upd_ne z]; exact e, l⟩
      · obtain ⟨xs, e, l⟩ := ho; exact ⟨xs, by rw [upd_ne z]; exact e, l⟩
  · by_cases z : a = p
    · subst z; rw [upd_same] at e3; cases e3; exact hx
    · rw [tset_ne z] at q
      rw [upd_ne z] at e3
      exact w.tx a C2 fs2 ds2 q dx2 ys e3
/-- self.x = e, a new attribute -/
theorem ru_fld {C p : Addr} {fs : List Str} {ds : List D} {x : Str} (ho : Ev X o ρ T (.ptr p)) (hp : T p = some (.obj C fs ds)) (hv : Ev X value ρ T d) (cl : Cls X.K C) (na : NoAttr X.K C x) (hx : x ∉ fs) (hl : fs.length ≤ 100) (hn : R.nx ρ (tset T p (.obj C (fs ++ [x]) (ds ++ [d]))))
    (hs : swapsWith value (some (.Attribute o x pos')) pos.line X.env = pure false := by rfl) : RuS X (.Assign [.Attribute o x pos'] value pos) ρ T R :=
  PS_imp (ps_fld ho hv hs) fun D σ H ⟨Hf, Hr, w, en, q⟩ => ⟨Hf, Hr, w, en, fun v H2 Hf2 e w2 k1 => ⟨Hf2, Hr, w2, en.mono e, fun v3 H3 Hf3 e3 w3 k3 => by
    have ho' := w3.to p _ hp
    simp only [Own] at ho'
    obtain ⟨dx, xs, h1, h2, h3, l, il⟩ := ho'
    refine ⟨p, C, dx, _, is_ptr.mp k3, h1, cl, na, by rw [List.length_zip]; omega, ?_⟩
    rw [putF_zip x v fs xs l hx]
    exact q.1 _ _ _ _ Hf3 hn (e.trans e3) (w3.fld hp h1 h2 (by simp [l]) (il.app (.one (k1.mono e3)))) ((en.mono e).mono e3)⟩⟩
/-! ### defs are called -/
/-- a pure promise: data in, data out -/
def Pu (K : Fg) (TB : Th) (S : List D → D → Prop) : Sp := fun vs H Q _ => ∃ Hf Hr ds d, S ds d ∧ Wd K Hf Hr H TB ∧ IsL K Hf ds vs ∧ ∀ v H' Hf', Ex Hf Hf' → Wd K Hf' Hr H' TB → Is K Hf' d v → Q v H'
/-- a promise that changes what is owned, of an outcome that is not told for sure -/
def Pn (K : Fg) (S : List D → Th → (D → Th → Prop) → Prop) : Sp := fun vs H Q _ => ∃ Hf Hr ds T Post, S ds T Post ∧ NoObj T ∧ (∀ d T', Post d T' → NoObj T' ∧ ∀ a, T a = none ↔ T' a = none) ∧ Wd K Hf Hr H T ∧ IsL K Hf ds vs ∧ ∀ d T' v H' Hf', Post d T' → Ex Hf Hf' → Wd K Hf' Hr H' T' → Is K Hf' d v → Q v H'
end
/-- a def of the module by its promise -/
structure Df (P : Program) (w : World) (K : Fg) (mg : Str → Option Value) (base : Heap) (TB : Th) (k : Nat) (x : Str) (S : List D → D → Prop) : Prop where
  to : TabOnly TB
  ex : ∃ f fd ps, mg x = some (.ref f) ∧ PySem.W.keepIn K (.ref f) = true ∧ Binds K fd ps [] ∧ FnOk P w K mg base CX0 k f fd ps (Pu K TB S)
structure Dn (P : Program) (w : World) (K : Fg) (mg : Str → Option Value) (base : Heap) (k : Nat) (x : Str) (S : List D → Th → (D → Th → Prop) → Prop) : Prop where
  ex : ∃ f fd ps, mg x = some (.ref f) ∧ PySem.W.keepIn K (.ref f) = true ∧ Binds K fd ps [] ∧ FnOk P w K mg base CX0 k f fd ps (Pn K S)
section
variable {X : Cx} {e o : Expr} {es : List Expr} {ρ : Rho} {T T' : Th} {pos p : Pos} {d : D} {ds : List D} {x : Str} {k : Nat} {S : List D → D → Prop}
theorem ev_call {TB : Th} (F : Df X.prog X.w X.K X.mg X.base TB k x S) (le : Le TB T) (hr : Room k X.A) (ha : EvA X (e :: es) ρ T ds) (hS : S ds d) (hg : Gl X x := by rfl) (hdb : (x == ("__debug__" : Str)) = false := by decide) (he : starEach (e :: es) X.env = (false, eval e X.env) :: starEach es X.env := by rfl) (hpl : (backTo pos (starEach es X.env)).any (·.1) = false := by rfl) :
    Ev X (.Call (.Name x p) (e :: es) [] pos) ρ T d := by
  obtain ⟨to, f, fd, ps, hm, hk, hb, F⟩ := F
  refine PE_imp (pe_call F hr hg hm hk hb .nil pass0 ha hdb he hpl) fun σ H Q ⟨Hf, Hr, w, en, q⟩ => ⟨Hf, Hr, w, en, fun vs H2 Hf2 e2 w2 i => ?_⟩
  show Pu X.K TB S (vs ++ []) H2 Q E0
  rw [List.append_nil]
  exact ⟨Hf2, _, ds, d, hS, w2.hide to.noObj le, i, fun v H3 Hf3 e3 w3 i3 => q v H3 Hf3 (e2.trans e3) (by have := w2.show to.noObj to.noObj (fun _ => Iff.rfl) le e3 w3; rwa [over_le le] at this) i3⟩
/-- an expression that may change what is owned -/
def tN (K : Fg) (ρ : Rho) (T : Th) (Post : D → Th → Prop) : TE := fun σ H Q => ∃ Hf Hr, Wd K Hf Hr H T ∧ EnvF K Hf σ ρ ∧ ∀ d T' v H2 Hf2, Post d T' → Ex Hf Hf2 → Wd K Hf2 Hr H2 T' → Is K Hf2 d v → Q v H2
abbrev EvN (X : Cx) (e : Expr) (ρ : Rho) (T : Th) (Post : D → Th → Prop) : Prop := PE X e (tN X.K ρ T Post)
def tNA (K : Fg) (ρ : Rho) (T : Th) (Post : List D → Th → Prop) : TA := fun σ H Q => ∃ Hf Hr, Wd K Hf Hr H T ∧ EnvF K Hf σ ρ ∧ ∀ ds T' vs H2 Hf2, Post ds T' → Ex Hf Hf2 → Wd K Hf2 Hr H2 T' → IsL K Hf2 ds vs → Q vs H2
abbrev EvNA (X : Cx) (es : List Expr) (ρ : Rho) (T : Th) (Post : List D → Th → Prop) : Prop := PA X es (tNA X.K ρ T Post)
def wE (X : Cx) (e : Expr) : TE := fun σ H Q => ∀ pins s, Inv X pins σ H s → wpAny (model X.prog X.w) X.A (eval e X.env) (EP X pins σ Q) X.xe s
theorem pe_wE : PE X e (wE X e) := ⟨fun pins s σ H Q I h => h pins s I⟩
def wA (X : Cx) (es : List Expr) : TA := fun σ H Q => ∀ pos pins s, Inv X pins σ H s → wpAny (model X.prog X.w) X.A (spliced (backTo pos (starEach es X.env))) (AP X pins σ Q) X.xe s
theorem pa_wA : PA X es (wA X es) := ⟨fun pos pins s σ H Q I h => h pos pins s I⟩
theorem evn_of {Post : D → Th → Prop} (h : Ev X e ρ T d) (k : Post d T) : EvN X e ρ T Post := PE_imp h fun σ H Q ⟨Hf, Hr, w, en, q⟩ => ⟨Hf, Hr, w, en, fun v H2 Hf2 e2 w2 i => q d T v H2 Hf2 k e2 w2 i⟩
theorem evn_mono {Post Post' : D → Th → Prop} (h : EvN X e ρ T Post) (k : ∀ d T', Post d T' → Post' d T') : EvN X e ρ T Post' := PE_imp h fun σ H Q ⟨Hf, Hr, w, en, q⟩ => ⟨Hf, Hr, w, en, fun d T' v H2 Hf2 p e2 w2 i => q d T' v H2 Hf2 (k d T' p) e2 w2 i⟩
theorem evna_nil {Post : List D → Th → Prop} (h : Post [] T) : EvNA X [] ρ T Post := PA_imp pa_nil fun σ H Q ⟨Hf, Hr, w, en, q⟩ => q [] T [] H Hf h (Ex.refl _) w .nil
theorem evna_cons {Post : List D → Th → Prop} (ha : EvN X e ρ T fun d T1 => EvNA X es ρ T1 fun ds T2 => Post (d :: ds) T2) (hs : starEach (e :: es) X.env = (false, eval e X.env) :: starEach es X.env := by rfl) : EvNA X (e :: es) ρ T Post :=
  PA_imp (pa_cons ha pa_wA hs) fun σ H Q ⟨Hf, Hr, w, en, q⟩ => ⟨Hf, Hr, w, en, fun d T1 v H2 Hf2 p e2 w2 i => fun pos pins s I =>
    p.run pos pins s σ H2 _ I ⟨Hf2, Hr, w2, en.mono e2, fun ds T2 vs H3 Hf3 p3 e3 w3 i3 => q (d :: ds) T2 (v :: vs) H3 Hf3 p3 (e2.trans e3) w3 (.cons (i.mono e3) i3)⟩⟩
theorem evna_of {Post : List D → Th → Prop} (h : EvA X es ρ T ds) (k : Post ds T) : EvNA X es ρ T Post := PA_imp h fun σ H Q ⟨Hf, Hr, w, en, q⟩ => ⟨Hf, Hr, w, en, fun vs H2 Hf2 e2 w2 i => q ds T vs H2 Hf2 k e2 w2 i⟩
/-- a call: T0 is what the callee owns, a part of what is owned here -/
theorem evn_call {Post : D → Th → Prop} {S : List D → Th → (D → Th → Prop) → Prop} (F : Dn X.prog X.w X.K X.mg X.base k x S) (hr : Room k X.A) (ha : EvNA X (e :: es) ρ T fun ds T1 => ∃ T0 P0, S ds T0 P0 ∧ NoObj T0 ∧ (∀ d T', P0 d T' → NoObj T' ∧ ∀ a, T0 a = none ↔ T' a = none) ∧ Le T0 T1 ∧ ∀ d T', P0 d T' → Post d (over T1 T'))
    (hg : Gl X x := by rfl) (hdb : (x == ("__debug__" : Str)) = false := by decide) (he : starEach (e :: es) X.env = (false, eval e X.env) :: starEach es X.env := by rfl) (hpl : (backTo pos (starEach es X.env)).any (·.1) = false := by rfl) : EvN X (.Call (.Name x p) (e :: es) [] pos) ρ T Post := by
  obtain ⟨f, fd, ps, hm, hk, hb, F⟩ := F
  refine PE_imp (pe_call F hr hg hm hk hb .nil pass0 ha hdb he hpl) fun σ H Q ⟨Hf, Hr, w, en, q⟩ => ⟨Hf, Hr, w, en, fun ds T1 vs H2 Hf2 p e2 w2 i => ?_⟩
  show Pn X.K S (vs ++ []) H2 Q E0
  rw [List.append_nil]
  obtain ⟨T0, P0, hS, n0, n1, le, hP⟩ := p
  exact ⟨Hf2, _, ds, T0, P0, hS, n0, n1, w2.hide n0 le, i, fun d T' v H3 Hf3 p3 e3 w3 i3 => q d _ v H3 Hf3 (hP d T' p3) (e2.trans e3) (w2.show n0 (n1 _ _ p3).1 (n1 _ _ p3).2 le e3 w3) i3⟩
end
end PU
set_option Elab.async false
set_option linter.all false
set_option maxRecDepth 100000
/-! P6: defs, built-ins over data. -/
namespace PU
open PySem PySem.Spec PyProof.Rows L2

/-! ### a def keeps its promise -/
def rho0 (N : List Str) (ds : List D) : Rho := ds.map some ++ List.replicate (N.length - ds.length) none
theorem env0 {K : Fg} {Hf : Hp} {N : List Str} {ds : List D} {vs : List V} (h : IsL K Hf ds vs) : EnvF K Hf (L2.start N vs) (rho0 N ds) := by
  unfold L2.start rho0
  refine ⟨by simp [h.len], fun j d q => ?_⟩
  by_cases hj : j < ds.length
  · rw [List.getElem?_append_left (by simpa using hj), List.getElem?_map] at q
    cases e : ds[j]? with
    | none => rw [e] at q; cases q
    | some d' =>
      rw [e] at q
      cases q
      obtain ⟨x, e2, k⟩ := h.get e
      exact ⟨x, by rw [List.getElem?_append_left (by rw [List.length_map, ← h.len]; exact hj), List.getElem?_map, e2]; rfl, k⟩
  · rw [List.getElem?_append_right (by simpa using hj), List.getElem?_replicate] at q
    split at q <;> cases q
/-- what the body of a pure def is to come to -/
def Rd0 (TB : Th) (d : D) : Rs := { nx := fun _ T => d = .non ∧ T = TB, rt := fun d' T => d' = d ∧ T = TB }
def RdN (Post : D → Th → Prop) : Rs := { nx := fun _ T => Post .non T, rt := Post }
section
variable {P : Program} {w : World} {K : Fg} {mg : Str → Option Value} {base : Heap} {TB : Th}
abbrev BodyX (P : Program) (w : World) (K : Fg) (mg : Str → Option Value) (base : Heap) (N : List Str) (qual : Str) (st : Stmt) (f : Addr) (cdv : Value) (A : Around) (outer : List Env) (s : Shared) (H : Hp) (E : XK) : Cx := (cxOf CX0 P w K mg base N qual (defScope st) f cdv A outer s H E).nox
theorem fn_pu {x qual : Str} {st : Stmt} {f : Addr} {fd : FuncData} {N ps : List Str} {k : Nat} {S : List D → D → Prop} (F : Fun K x qual st f fd) (Sc : FnScope N ps (defScope st)) (hl : ∀ ds d, S ds d → ds.length = ps.length)
    (h : ∀ cdv A outer s H E ds d, Room k (BodyX P w K mg base N qual st f cdv A outer s H E).A → S ds d → Ru (BodyX P w K mg base N qual st f cdv A outer s H E) (defBody st) (rho0 N ds) TB (Rd0 TB d)) : FnOk P w K mg base CX0 (k + 1) f fd ps (Pu K TB S) :=
  F.ok Sc (fun vs H Q E ⟨Hf, Hr, ds, d, hS, w, il, q⟩ => by rw [← il.len]; exact hl ds d hS) fun cdv A outer s H vs Q E hr ⟨Hf, Hr, ds, d, hS, w, il, q⟩ =>
    ⟨_, h cdv A outer s H E ds d hr hS, Hf, Hr, w, env0 il, fun ρ' T' σ' H' Hf' ⟨e, eT⟩ e' w' en' => by subst eT e; exact q .non H' Hf' e' w' (is_non.mpr rfl), fun d' T' v H' Hf' ⟨e, eT⟩ e' w' i' => by subst eT e; exact q v H' Hf' e' w' i', fun _ _ _ _ _ z => z.elim, fun _ _ _ _ _ z => z.elim⟩
theorem fn_pn {x qual : Str} {st : Stmt} {f : Addr} {fd : FuncData} {N ps : List Str} {k : Nat} {S : List D → Th → (D → Th → Prop) → Prop} (F : Fun K x qual st f fd) (Sc : FnScope N ps (defScope st)) (hl : ∀ ds T Post, S ds T Post → ds.length = ps.length)
    (h : ∀ cdv A outer s H E ds T Post, Room k (BodyX P w K mg base N qual st f cdv A outer s H E).A → S ds T Post → Ru (BodyX P w K mg base N qual st f cdv A outer s H E) (defBody st) (rho0 N ds) T (RdN Post)) : FnOk P w K mg base CX0 (k + 1) f fd ps (Pn K S) :=
  F.ok Sc (fun vs H Q E ⟨Hf, Hr, ds, T, Post, hS, n0, n1, w, il, q⟩ => by rw [← il.len]; exact hl ds T Post hS) fun cdv A outer s H vs Q E hr ⟨Hf, Hr, ds, T, Post, hS, n0, n1, w, il, q⟩ =>
    ⟨_, h cdv A outer s H E ds T Post hr hS, Hf, Hr, w, env0 il, fun ρ' T' σ' H' Hf' p e' w' en' => q .non T' .non H' Hf' p e' w' (is_non.mpr rfl), fun d' T' v H' Hf' p e' w' i' => q d' T' v H' Hf' p e' w' i', fun _ _ _ _ _ z => z.elim, fun _ _ _ _ _ z => z.elim⟩
/-- a def of the text as it stands: where, its parameters -/
structure At (K : Fg) (mg : Str → Option Value) (x : Str) (st : Stmt) (ps : List Str) : Prop where
  ex : ∃ f fd, Fun K x x st f fd ∧ mg x = some (.ref f) ∧ Binds K fd ps []
theorem mk_df {x : Str} {st : Stmt} {N ps : List Str} {k : Nat} {S : List D → D → Prop} (to : TabOnly TB) (a : At K mg x st ps) (Sc : FnScope N ps (defScope st)) (hl : ∀ ds d, S ds d → ds.length = ps.length)
    (h : ∀ f cdv A outer s H E ds d, Room k (BodyX P w K mg base N x st f cdv A outer s H E).A → S ds d → Ru (BodyX P w K mg base N x st f cdv A outer s H E) (defBody st) (rho0 N ds) TB (Rd0 TB d)) : Df P w K mg base TB (k + 1) x S := by
  obtain ⟨f, fd, F, hm, hb⟩ := a.ex
  exact ⟨to, f, fd, ps, hm, F.kp, hb, fn_pu F Sc hl (h f)⟩
theorem Df.mono {j k : Nat} {x : Str} {S : List D → D → Prop} (F : Df P w K mg base TB j x S) (h : j ≤ k) : Df P w K mg base TB k x S := by
  obtain ⟨to, f, fd, ps, a, b, c, d⟩ := F
  exact ⟨to, f, fd, ps, a, b, c, d.mono h⟩
theorem mk_dn {x : Str} {st : Stmt} {N ps : List Str} {k : Nat} {S : List D → Th → (D → Th → Prop) → Prop} (a : At K mg x st ps) (Sc : FnScope N ps (defScope st)) (hl : ∀ ds T Post, S ds T Post → ds.length = ps.length)
    (h : ∀ f cdv A outer s H E ds T Post, Room k (BodyX P w K mg base N x st f cdv A outer s H E).A → S ds T Post → Ru (BodyX P w K mg base N x st f cdv A outer s H E) (defBody st) (rho0 N ds) T (RdN Post)) : Dn P w K mg base (k + 1) x S := by
  obtain ⟨f, fd, F, hm, hb⟩ := a.ex
  exact ⟨f, fd, ps, hm, F.kp, hb, fn_pn F Sc hl (h f)⟩
theorem Dn.mono {j k : Nat} {x : Str} {S : List D → Th → (D → Th → Prop) → Prop} (F : Dn P w K mg base j x S) (h : j ≤ k) : Dn P w K mg base k x S := by
  obtain ⟨f, fd, ps, a, b, c, d⟩ := F
  exact ⟨f, fd, ps, a, b, c, d.mono h⟩
end

/-! ### built-ins -/
def RcD (K : Fg) (T : Th) (r : List V → Hp → VK → Prop) (ds : List D) (d : D) : Prop := ∀ vs Hf Hr H, Wd K Hf Hr H T → IsL K Hf ds vs → ∀ Q : VK, (∀ v H2 Hf2, Ex Hf Hf2 → Wd K Hf2 Hr H2 T → Is K Hf2 d v → Q v H2) → r vs H Q
section
variable {X : Cx} {a b c e o f : Expr} {es : List Expr} {ρ : Rho} {T : Th} {pos p p2 q2 : Pos} {d d1 d2 : D} {ds : List D} {x : Str} {r : List V → Hp → VK → Prop} {id : String} {n : String}
theorem ev_cb (hc : CallR X (.builtin id) r) (hm : X.mg x = none) (hv : bootBuiltins x = some (.builtin id)) (ha : EvA X (e :: es) ρ T ds) (hr : RcD X.K T r ds d) (hg : Gl X x := by rfl) (hn : x ≠ "__name__" := by decide) (hdb : (x == ("__debug__" : Str)) = false := by decide)
    (he : starEach (e :: es) X.env = (false, eval e X.env) :: starEach es X.env := by rfl) (hpl : (backTo pos (starEach es X.env)).any (·.1) = false := by rfl) : Ev X (.Call (.Name x p) (e :: es) [] pos) ρ T d :=
  PE_imp (pe_callB hc hg hm hv ha hn hdb he hpl) fun σ H Q ⟨Hf, Hr, w, en, q⟩ => ⟨Hf, Hr, w, en, fun vs H2 Hf2 e2 w2 i => hr vs Hf2 Hr H2 w2 i Q fun v H3 Hf3 e3 w3 i3 => q v H3 Hf3 (e2.trans e3) w3 i3⟩
theorem ev_ct (hc : CallR X (.type n) r) (hm : X.mg x = none) (hv : bootBuiltins x = some (.type n)) (ha : EvA X (e :: es) ρ T ds) (hr : RcD X.K T r ds d) (hg : Gl X x := by rfl) (hn : x ≠ "__name__" := by decide) (hdb : (x == ("__debug__" : Str)) = false := by decide)
    (he : starEach (e :: es) X.env = (false, eval e X.env) :: starEach es X.env := by rfl) (hpl : (backTo pos (starEach es X.env)).any (·.1) = false := by rfl) : Ev X (.Call (.Name x p) (e :: es) [] pos) ρ T d :=
  PE_imp (pe_callTy hc hg hm hv ha hn hdb he hpl) fun σ H Q ⟨Hf, Hr, w, en, q⟩ => ⟨Hf, Hr, w, en, fun vs H2 Hf2 e2 w2 i => hr vs Hf2 Hr H2 w2 i Q fun v H3 Hf3 e3 w3 i3 => q v H3 Hf3 (e2.trans e3) w3 i3⟩
theorem isL1 {K : Fg} {Hf : Hp} {d : D} {vs : List V} (h : IsL K Hf [d] vs) : ∃ x, vs = [x] ∧ Is K Hf d x := by
  simp only [IsL] at h
  obtain ⟨x, r, rfl, i, rfl⟩ := h
  exact ⟨x, rfl, i⟩
theorem isL2 {K : Fg} {Hf : Hp} {d d2 : D} {vs : List V} (h : IsL K Hf [d, d2] vs) : ∃ x y, vs = [x, y] ∧ Is K Hf d x ∧ Is K Hf d2 y := by
  simp only [IsL] at h
  obtain ⟨x, r, rfl, i, y, r2, rfl, i2, rfl⟩ := h
  exact ⟨x, y, rfl, i, i2⟩
section
variable {i j : Int}
theorem ev_abs (hm : X.mg "abs" = none) (ha : Ev X a ρ T (.int i)) (hg : Gl X "abs" := by rfl) (he : starEach [a] X.env = (false, eval a X.env) :: starEach [] X.env := by rfl) : Ev X (.Call (.Name "abs" p) [a] [] pos) ρ T (.int (i.natAbs : Nat)) :=
  ev_cb call_abs hm (by decide +kernel) (eva_cons ha eva_nil he) (fun vs Hf Hr H w il Q q => by
    obtain ⟨x, rfl, k⟩ := isL1 il
    rw [is_int.mp k]
    refine ⟨i, rfl, q _ H Hf (Ex.refl _) w (is_int.mpr ?_)⟩
    congr 1; split <;> omega) hg (by decide) (by decide) he rfl
theorem ev_max (hm : X.mg "max" = none) (hc : X.calm = true) (ha : Ev X a ρ T (.int i)) (hb : Ev X b ρ T (.int j)) (hg : Gl X "max" := by rfl) (he : starEach [a, b] X.env = (false, eval a X.env) :: starEach [b] X.env := by rfl) (he2 : starEach [b] X.env = (false, eval b X.env) :: starEach [] X.env := by rfl) (hpl : (backTo pos (starEach [b] X.env)).any (·.1) = false := by rfl) : Ev X (.Call (.Name "max" p) [a, b] [] pos) ρ T (.int (max i j)) :=
  ev_cb (call_max2 hc) hm (by decide +kernel) (eva_cons ha (eva_cons hb eva_nil he2) he) (fun vs Hf Hr H w il Q q => by
    obtain ⟨x, y, rfl, k, k2⟩ := isL2 il
    rw [is_int.mp k, is_int.mp k2]
    refine ⟨i, j, rfl, q _ H Hf (Ex.refl _) w (is_int.mpr ?_)⟩
    congr 1; split <;> omega) hg (by decide) (by decide) he hpl
theorem ev_min (hm : X.mg "min" = none) (hc : X.calm = true) (ha : Ev X a ρ T (.int i)) (hb : Ev X b ρ T (.int j)) (hg : Gl X "min" := by rfl) (he : starEach [a, b] X.env = (false, eval a X.env) :: starEach [b] X.env := by rfl) (he2 : starEach [b] X.env = (false, eval b X.env) :: starEach [] X.env := by rfl) (hpl : (backTo pos (starEach [b] X.env)).any (·.1) = false := by rfl) : Ev X (.Call (.Name "min" p) [a, b] [] pos) ρ T (.int (min i j)) :=
  ev_cb (call_min2 hc) hm (by decide +kernel) (eva_cons ha (eva_cons hb eva_nil he2) he) (fun vs Hf Hr H w il Q q => by
    obtain ⟨x, y, rfl, k, k2⟩ := isL2 il
    rw [is_int.mp k, is_int.mp k2]
    refine ⟨i, j, rfl, q _ H Hf (Ex.refl _) w (is_int.mpr ?_)⟩
    congr 1; split <;> omega) hg (by decide) (by decide) he hpl
theorem ev_intI (hm : X.mg "int" = none) (ha : Ev X a ρ T (.int i)) (hg : Gl X "int" := by rfl) (he : starEach [a] X.env = (false, eval a X.env) :: starEach [] X.env := by rfl) : Ev X (.Call (.Name "int" p) [a] [] pos) ρ T (.int i) :=
  ev_ct call_int1 hm (by decide +kernel) (eva_cons ha eva_nil he) (fun vs Hf Hr H w il Q q => by
    obtain ⟨x, rfl, k⟩ := isL1 il
    rw [is_int.mp k]
    exact .inl ⟨i, rfl, q _ H Hf (Ex.refl _) w (is_int.mpr rfl)⟩) hg (by decide) (by decide) he rfl
theorem ev_intB {k : Bool} (hm : X.mg "int" = none) (ha : Ev X a ρ T (.bl k)) (hg : Gl X "int" := by rfl) (he : starEach [a] X.env = (false, eval a X.env) :: starEach [] X.env := by rfl) : Ev X (.Call (.Name "int" p) [a] [] pos) ρ T (.int (if k then 1 else 0)) :=
  ev_ct call_int1 hm (by decide +kernel) (eva_cons ha eva_nil he) (fun vs Hf Hr H w il Q q => by
    obtain ⟨x, rfl, k⟩ := isL1 il
    rw [is_bl.mp k]
    exact .inr ⟨_, rfl, q _ H Hf (Ex.refl _) w (is_int.mpr rfl)⟩) hg (by decide) (by decide) he rfl
/-- x.bit_length() -/
theorem ev_bits {apos : Pos} (ha : Ev X a ρ T (.int i)) (hbase : attributeBase a "bit_length" X.env (eval a X.env) = eval a X.env := by rfl) (hline : (apos.endLine == pos.line) = true := by rfl) : Ev X (.Call (.Attribute a "bit_length" apos) [] [] pos) ρ T (.int (Builtin.Int.intBits i : Nat)) :=
  PE_imp (pe_bits ha hbase hline) fun σ H Q ⟨Hf, Hr, w, en, q⟩ => ⟨Hf, Hr, w, en, fun v H2 Hf2 e w2 k => ⟨i, is_int.mp k, q _ H2 Hf2 e w2 (is_int.mpr rfl)⟩⟩
end
theorem ev_len (hm : X.mg "len" = none) (ha : Ev X a ρ T d1) (hc : Ct T d1 (.lst ds)) (hg : Gl X "len" := by rfl) (he : starEach [a] X.env = (false, eval a X.env) :: starEach [] X.env := by rfl) : Ev X (.Call (.Name "len" p) [a] [] pos) ρ T (.int (ds.length : Nat)) :=
  ev_cb call_len_seq hm (by decide +kernel) (eva_cons ha eva_nil he) (fun vs Hf Hr H w il Q q => by
    obtain ⟨x, rfl, k⟩ := isL1 il
    obtain ⟨p, xs, rfl, hp, l⟩ := ct_lst hc w k
    exact ⟨p, xs, rfl, .inl (SqL.of hp), q _ H Hf (Ex.refl _) w (is_int.mpr (by rw [l.len]))⟩) hg (by decide) (by decide) he rfl
theorem ev_lenS (hm : X.mg "len" = none) (ha : Ev X a ρ T (.scr ds)) (hg : Gl X "len" := by rfl) (he : starEach [a] X.env = (false, eval a X.env) :: starEach [] X.env := by rfl) : Ev X (.Call (.Name "len" p) [a] [] pos) ρ T (.int (ds.length : Nat)) :=
  ev_cb call_len_seq hm (by decide +kernel) (eva_cons ha eva_nil he) (fun vs Hf Hr H w il Q q => by
    obtain ⟨x, rfl, k⟩ := isL1 il
    obtain ⟨p, xs, rfl, hp, l⟩ := is_scr.mp k
    exact ⟨p, xs, rfl, .inl (ex_l w.f hp), q _ H Hf (Ex.refl _) w (is_int.mpr (by rw [l.len]))⟩) hg (by decide) (by decide) he rfl
theorem ev_lenT (hm : X.mg "len" = none) (ha : Ev X a ρ T (.tup ds)) (hg : Gl X "len" := by rfl) (he : starEach [a] X.env = (false, eval a X.env) :: starEach [] X.env := by rfl) : Ev X (.Call (.Name "len" p) [a] [] pos) ρ T (.int (ds.length : Nat)) :=
  ev_cb call_len_seq hm (by decide +kernel) (eva_cons ha eva_nil he) (fun vs Hf Hr H w il Q q => by
    obtain ⟨x, rfl, k⟩ := isL1 il
    obtain ⟨p, xs, rfl, hp, l⟩ := is_tup.mp k
    exact ⟨p, xs, rfl, .inr (ex_t w.f hp), q _ H Hf (Ex.refl _) w (is_int.mpr (by rw [l.len]))⟩) hg (by decide) (by decide) he rfl
theorem ev_lenX {z : Str} (hm : X.mg "len" = none) (ha : Ev X a ρ T (.str z)) (hz : z.length ≤ 100000) (hg : Gl X "len" := by rfl) (he : starEach [a] X.env = (false, eval a X.env) :: starEach [] X.env := by rfl) : Ev X (.Call (.Name "len" p) [a] [] pos) ρ T (.int (z.length : Nat)) :=
  ev_cb call_len_str hm (by decide +kernel) (eva_cons ha eva_nil he) (fun vs Hf Hr H w il Q q => by
    obtain ⟨x, rfl, k⟩ := isL1 il
    rw [is_str.mp k]
    exact ⟨z, rfl, Nat.le_trans hz (by decide), q _ H Hf (Ex.refl _) w (is_int.mpr rfl)⟩) hg (by decide) (by decide) he rfl
theorem ev_sum {ns : List Int} (hm : X.mg "sum" = none) (hc : X.calm = true) (ha : Ev X a ρ T (.lst (ns.map .int))) (hg : Gl X "sum" := by rfl) (he : starEach [a] X.env = (false, eval a X.env) :: starEach [] X.env := by rfl) : Ev X (.Call (.Name "sum" p) [a] [] pos) ρ T (.int ns.sum) :=
  ev_cb (cr_sum hc) hm (by decide +kernel) (eva_cons ha eva_nil he) (fun vs Hf Hr H w il Q q => by
    obtain ⟨x, rfl, k⟩ := isL1 il
    obtain ⟨p, xs, rfl, hp, l⟩ := is_lst.mp k
    rw [l.ints] at hp
    exact ⟨p, ns, rfl, SqL.of (w.f _ _ hp), q _ H Hf (Ex.refl _) w (is_int.mpr rfl)⟩) hg (by decide) (by decide) he rfl
theorem isL_bls {K : Fg} {H : Hp} : ∀ {bs : List Bool} {xs : List V}, IsL K H (bs.map D.bl) xs → xs = bs.map V.bl
  | [], _, h => by simp only [List.map, IsL] at h; exact h
  | n :: ns, xs, h => by
    simp only [List.map, IsL, Is] at h
    obtain ⟨x, r, rfl, rfl, c⟩ := h
    rw [isL_bls c]; rfl
theorem ev_all {bs : List Bool} (hm : X.mg "all" = none) (hc : X.calm = true) (ha : Ev X a ρ T (.lst (bs.map .bl))) (hg : Gl X "all" := by rfl) (he : starEach [a] X.env = (false, eval a X.env) :: starEach [] X.env := by rfl) : Ev X (.Call (.Name "all" p) [a] [] pos) ρ T (.bl (bs.all _root_.id)) :=
  ev_cb (cr_all hc) hm (by decide +kernel) (eva_cons ha eva_nil he) (fun vs Hf Hr H w il Q q => by
    obtain ⟨x, rfl, k⟩ := isL1 il
    obtain ⟨p, xs, rfl, hp, l⟩ := is_lst.mp k
    rw [isL_bls l] at hp
    exact ⟨p, bs, rfl, SqL.of (w.f _ _ hp), q _ H Hf (Ex.refl _) w (is_bl.mpr rfl)⟩) hg (by decide) (by decide) he rfl
theorem ev_any {bs : List Bool} (hm : X.mg "any" = none) (hc : X.calm = true) (ha : Ev X a ρ T (.lst (bs.map .bl))) (hg : Gl X "any" := by rfl) (he : starEach [a] X.env = (false, eval a X.env) :: starEach [] X.env := by rfl) : Ev X (.Call (.Name "any" p) [a] [] pos) ρ T (.bl (bs.any _root_.id)) :=
  ev_cb (cr_any hc) hm (by decide +kernel) (eva_cons ha eva_nil he) (fun vs Hf Hr H w il Q q => by
    obtain ⟨x, rfl, k⟩ := isL1 il
    obtain ⟨p, xs, rfl, hp, l⟩ := is_lst.mp k
    rw [isL_bls l] at hp
    exact ⟨p, bs, rfl, SqL.of (w.f _ _ hp), q _ H Hf (Ex.refl _) w (is_bl.mpr rfl)⟩) hg (by decide) (by decide) he rfl
/-- dict(d): a copy -/
theorem ev_dict {kvs : List (Key × D)} (hm : X.mg "dict" = none) (ha : Ev X a ρ T d1) (hc : Ct T d1 (.dk kvs)) (hg : Gl X "dict" := by rfl) (he : starEach [a] X.env = (false, eval a X.env) :: starEach [] X.env := by rfl) : Ev X (.Call (.Name "dict" p) [a] [] pos) ρ T (.dk kvs) :=
  ev_ct call_dictD hm (by decide +kernel) (eva_cons ha eva_nil he) (fun vs Hf Hr H w il Q q => by
    obtain ⟨x, rfl, k⟩ := isL1 il
    obtain ⟨p, xs, rfl, hp, l, i⟩ := ct_dk hc w k
    exact ⟨p, _, rfl, .inl hp, fun r hr => q _ _ (upd Hf r _) (Ex.new (w.f.back hr)) (w.new hr) (new_dct (w.f.back hr) (by simpa using l) i)⟩) hg (by decide) (by decide) he rfl
/-- sorted(d), keys ints -/
theorem ev_sortedDI {kvs : List (Key × D)} {ks out : List Int} (hm : X.mg "sorted" = none) (hcm : X.calm = true) (ha : Ev X a ρ T d1) (hc : Ct T d1 (.dk kvs)) (hk : kvs.map (·.1) = ks.map Sum.inl) (h64 : ks.length < 64) (ho : ∀ ys : List Int, ys.Perm ks → ys.Pairwise (· ≤ ·) → ys = out) (hg : Gl X "sorted" := by rfl) (he : starEach [a] X.env = (false, eval a X.env) :: starEach [] X.env := by rfl) : Ev X (.Call (.Name "sorted" p) [a] [] pos) ρ T (.lst (out.map .int)) :=
  ev_cb (call_sortedDI hcm) hm (by decide +kernel) (eva_cons ha eva_nil he) (fun vs Hf Hr H w il Q q => by
    obtain ⟨x, rfl, k⟩ := isL1 il
    obtain ⟨p, xs, rfl, hp, l, i⟩ := ct_dk hc w k
    refine ⟨p, _, ks, rfl, .inl hp, by rw [zip_dk _ _ l]; exact hk, h64, fun ys r h1 h2 hr => ?_⟩
    rw [ho ys h1 h2]
    exact q _ _ (upd Hf r _) (Ex.new (w.f.back hr)) (w.new hr) (new_lst (w.f.back hr) (IsL.of_ints out))) hg (by decide) (by decide) he rfl
/-- sorted(d), keys texts -/
theorem ev_sortedDS {kvs : List (Key × D)} {ks out : List Str} (hm : X.mg "sorted" = none) (hcm : X.calm = true) (ha : Ev X a ρ T d1) (hc : Ct T d1 (.dk kvs)) (hk : kvs.map (·.1) = ks.map Sum.inr) (h64 : ks.length < 64) (ho : ∀ ys : List Str, ys.Perm ks → sortedS ys = true → ys = out) (hg : Gl X "sorted" := by rfl) (he : starEach [a] X.env = (false, eval a X.env) :: starEach [] X.env := by rfl) : Ev X (.Call (.Name "sorted" p) [a] [] pos) ρ T (.lst (out.map .str)) :=
  ev_cb (call_sortedD hcm) hm (by decide +kernel) (eva_cons ha eva_nil he) (fun vs Hf Hr H w il Q q => by
    obtain ⟨x, rfl, k⟩ := isL1 il
    obtain ⟨p, xs, rfl, hp, l, i⟩ := ct_dk hc w k
    refine ⟨p, _, ks, rfl, .inl hp, by rw [zip_dk _ _ l]; exact hk, h64, fun ys r h1 h2 hr => ?_⟩
    rw [ho ys h1 h2]
    exact q _ _ (upd Hf r _) (Ex.new (w.f.back hr)) (w.new hr) (new_lst (w.f.back hr) (IsL.of_strs out))) hg (by decide) (by decide) he rfl
/-- sorted(xs), ints -/
theorem ev_sortedI {ks out : List Int} (hm : X.mg "sorted" = none) (ha : Ev X a ρ T (.lst (ks.map .int))) (ho : ∀ ys : List Int, ys.Perm ks → ys.Pairwise (· ≤ ·) → ys = out) (hg : Gl X "sorted" := by rfl) (he : starEach [a] X.env = (false, eval a X.env) :: starEach [] X.env := by rfl) : Ev X (.Call (.Name "sorted" p) [a] [] pos) ρ T (.lst (out.map .int)) :=
  ev_cb cr_sortedI hm (by decide +kernel) (eva_cons ha eva_nil he) (fun vs Hf Hr H w il Q q => by
    obtain ⟨x, rfl, k⟩ := isL1 il
    obtain ⟨p, xs, rfl, hp, l⟩ := is_lst.mp k
    rw [l.ints] at hp
    refine ⟨p, ks, rfl, SqL.of (w.f _ _ hp), fun ys r h1 h2 hr => ?_⟩
    rw [ho ys h1 h2]
    exact q _ _ (upd Hf r _) (Ex.new (w.f.back hr)) (w.new hr) (new_lst (w.f.back hr) (IsL.of_ints out))) hg (by decide) (by decide) he rfl
/-! ### isinstance -/
def isiD (d : D) (n : String) : Option Bool := match d with
  | .non => kitB "NoneType" n | .bl _ => kitB "bool" n | .int _ => kitB "int" n | .str _ => kitB "str" n | .lst _ => kitB "list" n | .tup _ => kitB "tuple" n | .dct _ _ => kitB "dict" n | _ => none
def tyName : D → Option String
  | .non => some "NoneType" | .bl _ => some "bool" | .int _ => some "int" | .str _ => some "str" | .lst _ => some "list" | .tup _ => some "tuple" | .dct _ _ => some "dict" | _ => none
theorem tyx_of {K : Fg} {Hf Hr H : Hp} {T : Th} {d : D} {v : V} {n : String} (w : Wd K Hf Hr H T) (i : Is K Hf d v) (h : tyName d = some n) : TyX K H v (.type n) := by
  cases d <;> simp only [tyName] at h <;> first | cases h | skip
  · rw [is_non.mp i]; exact .base .non
  · rw [is_bl.mp i]; exact .base (.bl _)
  · rw [is_int.mp i]; exact .base (.int _)
  · rw [is_str.mp i]; exact .base (.str _)
  · obtain ⟨p, xs, rfl, hp, l⟩ := is_lst.mp i
    exact .base (.lst (w.f _ _ hp))
  · obtain ⟨p, xs, rfl, hp, l⟩ := is_tup.mp i
    rcases hp with (hp | ⟨o, hp⟩) | ⟨o, its, n, hk, hc, _⟩
    · exact .base (.tup (w.f _ _ hp))
    · exact .fTuple (w.f _ _ hp)
    · exact .kTuple hk hc
  · obtain ⟨p, xs, rfl, hp, l⟩ := is_dct.mp i
    exact .base (.dK (w.f _ _ hp))
theorem ev_ty {n : String} (hm : X.mg x = none) (hv : bootBuiltins x = some (.type n)) (hg : Gl X x := by rfl) (hn : x ≠ "__name__" := by decide) (hd : (x == ("__debug__" : Str)) = false := by decide) : Ev X (.Name x pos) ρ T (.vl (.ty n)) := ev_c (pe_bltn (v := .ty n) hg hm hv (show L2.RelV (.ty n) (Value.type n) from rfl) hn hd) fun _ => is_vl.mpr rfl
theorem ev_isi {n m : String} {r : Bool} (hm : X.mg "isinstance" = none) (ha : Ev X a ρ T d1) (hb : Ev X b ρ T (.vl (.ty m))) (ht : tyName d1 = some n) (hk : kitB n m = some r) (hg : Gl X "isinstance" := by rfl) (he : starEach [a, b] X.env = (false, eval a X.env) :: starEach [b] X.env := by rfl) (he2 : starEach [b] X.env = (false, eval b X.env) :: starEach [] X.env := by rfl) (hpl : (backTo pos (starEach [b] X.env)).any (·.1) = false := by rfl) : Ev X (.Call (.Name "isinstance" p) [a, b] [] pos) ρ T (.bl r) :=
  ev_cb call_isi hm (by decide +kernel) (eva_cons ha (eva_cons hb eva_nil he2) he) (fun vs Hf Hr H w il Q q => by
    obtain ⟨x, y, rfl, k, k2⟩ := isL2 il
    rw [is_vl.mp k2]
    exact ⟨x, .ty m, .type n, .type m, r, rfl, .ty m, tyx_of w k ht, kit_ty hk, q _ H Hf (Ex.refl _) w (is_bl.mpr rfl)⟩) hg (by decide) (by decide) he hpl
theorem isL_tys {K : Fg} {H : Hp} : ∀ {ms : List String} {xs : List V}, IsL K H (ms.map fun m => .vl (.ty m)) xs → xs = ms.map V.ty
  | [], _, h => by simp only [List.map, IsL] at h; exact h
  | n :: ns, xs, h => by
    simp only [List.map, IsL, Is] at h
    obtain ⟨x, r, rfl, rfl, c⟩ := h
    rw [isL_tys c]; rfl
theorem paired_tys : ∀ ms : List String, Paired ClsV (ms.map V.ty) (ms.map Value.type)
  | [] => .nil
  | m :: ms => .cons (.ty m) (paired_tys ms)
theorem ev_isiT {n : String} {ms : List String} {r : Bool} {j} {tpos : Pos} (hm : X.mg "isinstance" = none) (ha : Ev X a ρ T d1) (hb : EvA X es ρ T (ms.map fun m => .vl (.ty m))) (ht : tyName d1 = some n) (hk : ∀ K : Fg, PySem.W.kitAny K (.type n) (ms.map .type) = some r) (hl : ms.length ≤ 100 := by decide) (hg : Gl X "isinstance" := by rfl) (he : starEach [a, .Tuple es j tpos] X.env = (false, eval a X.env) :: starEach [.Tuple es j tpos] X.env := by rfl) (he2 : starEach [.Tuple es j tpos] X.env = (false, eval (.Tuple es j tpos) X.env) :: starEach [] X.env := by rfl) (hpl : (backTo pos (starEach [.Tuple es j tpos] X.env)).any (·.1) = false := by rfl) : Ev X (.Call (.Name "isinstance" p) [a, .Tuple es j tpos] [] pos) ρ T (.bl r) :=
  PE_imp (pe_callB call_isiT hg hm (by decide +kernel) (pa_cons ha (pa_cons (pe_tup hb) pa_nil he2) he) (by decide) (by decide) he hpl) fun σ H Q ⟨Hf, Hr, w, en, q⟩ => ⟨Hf, Hr, w, en, fun v H2 Hf2 e2 w2 k => ⟨Hf2, Hr, w2, en.mono e2, fun vs H3 Hf3 e3 w3 il => ⟨by rw [← il.len, List.length_map]; exact Nat.le_trans hl (by decide), fun tp hp => by
    rw [isL_tys il]
    have w4 := w3.new (o := .tup (ms.map V.ty)) hp
    refine ⟨v, tp, ms.map V.ty, .type n, ms.map .type, r, rfl, upd_same, paired_tys ms, tyx_of w4 ((k.mono e3).mono (Ex.new (w3.f.back hp))) ht, hk _, q _ _ _ ((e2.trans e3).trans (Ex.new (w3.f.back hp))) w4 (is_bl.mpr rfl)⟩⟩⟩⟩
end
end PU
set_option Elab.async false
set_option linter.all false
set_option maxRecDepth 100000
/-! P7: lambdas; min by a key. -/
namespace PU
open PySem PySem.Spec PyProof.Rows L2 LamX

/-- what is seen of a lambda of one parameter: it, captured names, globals -/
structure Lam1 (sc scope : Scope) (a : Str) : Prop where
  kind : scope.kind = .function
  co : scope.isCoroutine = false
  gen : scope.isGenerator = false
  loc : scope.names.lookup a = some .local
  own : ∀ y ∈ scope.names, (y.2 = .local → y.1 = a) ∧ y.2 ≠ .cell
  free : ∀ y ∈ scope.names, y.2 = .free → sc.names.lookup y.1 = some .cell ∨ sc.names.lookup y.1 = some .free
def lam1B (sc scope : Scope) (a : Str) : Bool :=
  decide (scope.kind = .function) && !scope.isCoroutine && !scope.isGenerator && decide (scope.names.lookup a = some .local) &&
    scope.names.all fun y => (!decide (y.2 = .local) || decide (y.1 = a)) && !decide (y.2 = .cell) && (!decide (y.2 = .free) || decide (sc.names.lookup y.1 = some .cell) || decide (sc.names.lookup y.1 = some .free))
theorem lam1_by {sc scope : Scope} {a : Str} (h : lam1B sc scope a = true) : Lam1 sc scope a := by
  unfold lam1B at h
  simp only [Bool.and_eq_true, Bool.or_eq_true, Bool.not_eq_true', decide_eq_true_eq, decide_eq_false_iff_not, List.all_eq_true] at h
  obtain ⟨⟨⟨⟨h1, h2⟩, h3⟩, h5⟩, h4⟩ := h
  refine ⟨h1, h2, h3, h5, fun y hy => ⟨fun e => ?_, (h4 y hy).1.2⟩, fun y hy e => ?_⟩
  · rcases (h4 y hy).1.1 with z | z
    · exact absurd e z
    · exact z
  · rcases (h4 y hy).2 with (z | z) | z
    · exact absurd e z
    · exact .inl z
    · exact .inr z
theorem Lam1.has {X : Cx} {scope : Scope} {a : Str} (L : Lam1 X.env.scope scope a) (ok : X.Ok) (y : Str × NameKind) (hy : y ∈ scope.names) (e : y.2 = .free) : ∃ c, X.env.cells.lookup y.1 = some c :=
  (L.free y hy e).elim (fun k => ok.has _ (.inl k)) fun k => ok.has _ (.inr k)
/-- the body's context; nothing is raised out of it -/
def lamC (X : Cx) (A : Around) (s : Shared) (H : Hp) (scope : Scope) (f c' : Addr) : Cx := { lamCx X A X.stack s H (fun _ _ _ => False) scope f c' with xe := fun _ _ => False }
section
variable {X : Cx} {pins : List (Addr × Obj)} {σ : L2.St} {H : Hp} {s : Shared}
theorem lam1_start {A : Around} {scope : Scope} {f c' : Addr} {h₁ : Heap} {tk : Nat} {a : Str} {j : Nat} {x : V} {u : Value} (I : Inv X pins σ H s) (L : Lam1 X.env.scope scope a) (hA : A.frames = some X.stack) (hd : A.handled = none)
    (hns : h₁.Ns s.heap.objs.size fun y => ([(a, u)] : List (Str × Value)).reverse.lookup y) (kp : ∀ b o, s.heap.get? b = some o → h₁.get? b = some o) (hN : X.N.Nodup) (hj : X.N[j]? = some a) (r : L2.RelV x u) :
    Inv (lamC X A s H scope f c') [] (σ.set j (some x)) H { s with heap := h₁, toks := tk } := by
  have e0 := I.env0
  have clo : ∀ {y c}, (cloFrom X.env.cells scope.names []).lookup y = some c → X.env.cells.lookup y = some c := by
    intro y c e
    rcases cloFrom_mem (PySem.mem_of_lookup e) with hm | ⟨h1, h2⟩
    · cases hm
    · obtain ⟨c1, hc⟩ := L.has I.ok _ h1 rfl
      have hc' : X.env.cells.lookup y = some c1 := hc
      rw [hc'] at h2
      have : c = c1 := h2
      rw [this]; exact hc'
  have clo2 : ∀ {y}, scope.names.lookup y = some .free → ∃ c, (cloFrom X.env.cells scope.names []).lookup y = some c := fun {y} hl => mem_lookup (cloFrom_has (cells := X.env.cells) (acc := []) (PySem.mem_of_lookup hl))
  have keepC : ∀ {c : Addr} {v : Option Value}, s.heap.IsCell c v → h₁.IsCell c v := fun {c v} ⟨o, ho, hd⟩ => ⟨o, kp _ _ ho, hd⟩
  have hjl : j < σ.length := by rw [I.len]; exact (List.getElem?_eq_some_iff.mp hj).1
  refine ⟨⟨e0.mod, L.kind, rfl, rfl, Nat.le_refl _, fun y z c e1 e2 => I.ok.inj y z c (clo e1) (clo e2), fun y hy => ?_, fun y c z _ => (Bool.noConfusion (show false = true from z)), fun _ => hd, Around.frames_deeper hA, .inr ⟨rfl, rfl⟩, fun b z => (by cases (show b ∈ ([] : List Addr) from z)), e0.bs, e0.bsz, fun b _ _ z => (by cases (show b ∈ ([] : List Addr) from z)),
      fun b z => (by cases (show b ∈ ([] : List Addr) from z)), e0.funs, e0.frf⟩,
    rfl, e0.bare, Un.kept kp, ⟨_, hns, fun i y v e1 e2 e3 => ?_⟩, fun y c e => ?_, e0.hok.fresh (Nat.le_refl _), fun y c e => ?_, fun q hq => absurd (show q ∈ ([] : List (Addr × Obj)) from hq) (by simp), e0.hok.kept kp, by rw [List.length_set]; exact I.len⟩
  · have hy' : scope.names.lookup y = some .cell ∨ scope.names.lookup y = some .free := hy
    rcases hy' with hy' | hy'
    · exact absurd rfl (L.own _ (PySem.mem_of_lookup hy')).2
    · exact clo2 hy'
  · have e3' : Vis scope y := e3
    have e1' : X.N[i]? = some y := e1
    rcases e3' with k | k | k
    · have ya : y = a := (L.own _ (PySem.mem_of_lookup k)).1 rfl
      subst ya
      have hij : i = j := nodup_ix hN e1' hj
      subst hij
      rw [List.getElem?_set_self hjl] at e2
      cases e2
      exact ⟨u, r, .inl ⟨k, by simp⟩⟩
    · exact absurd rfl (L.own _ (PySem.mem_of_lookup k)).2
    · have hij : i ≠ j := fun e => by
        subst e
        rw [e1'] at hj; cases hj
        rw [L.loc] at k; cases k
      rw [List.getElem?_set_ne (Ne.symm hij)] at e2
      obtain ⟨m, hn, hl⟩ := I.loc
      obtain ⟨w', r', q⟩ := hl i y v e1' e2 ((L.free _ (PySem.mem_of_lookup k) rfl).elim (fun k => .inr (.inl k)) fun k => .inr (.inr k))
      obtain ⟨c2, h2⟩ := clo2 k
      refine ⟨w', r', .inr ⟨.inr k, c2, h2, ?_⟩⟩
      have c1 := clo h2
      rcases q with ⟨k', _⟩ | ⟨_, c3, e', z⟩
      · have k'' : X.env.scope.names.lookup y = some .local := k'
        rcases L.free _ (PySem.mem_of_lookup k) rfl with k2 | k2 <;> (rw [show X.env.scope.names.lookup y = _ from k2] at k''; cases k'')
      · rw [c1] at e'
        cases e'
        exact keepC z
  · obtain ⟨w', z⟩ := I.cell y c (clo e)
    exact ⟨w', keepC z⟩
  · exact I.freeC y c (clo e)
/-- the lambda is called with one value, by its maker (within a built-in's call) -/
theorem run_lam1 {A : Around} {scope : Scope} {f c' : Addr} {a : Str} {j k : Nat} {x : V} {u : Value} {params : Arguments} {body : Expr} {pm ctv : Value} {tb : TE} {Q : VK} (I : Inv X pins σ H s) (L : Lam1 X.env.scope scope a) (hA : A.frames = some X.stack) (hr : Room (k + 1) A) (hN : X.N.Nodup) (hj : X.N[j]? = some a) (r : L2.RelV x u)
    (ho : s.heap.get? f = some (PySem.W.kla_obj "<lambda>" (X.env.qual ++ "<lambda>") params body scope (cloFrom X.env.cells scope.names []) pm c' ctv)) (hc : H c' = some (CodeO c' (X.env.qual ++ "<lambda>")))
    (hbind : bindArgs (PySem.W.kla_fn "<lambda>" (X.env.qual ++ "<lambda>") params body scope (cloFrom X.env.cells scope.names []) pm (.ref c') ctv) ⟨[u], []⟩ = pure [(a, u)])
    (hb : Room k (lamC X A s H scope f c').A → PE (lamC X A s H scope f c') body tb) (ht : tb (σ.set j (some x)) H Q) :
    codeAny (model X.prog X.w) A (.call (.ref f) ⟨[u], []⟩) (CR CX0 X.stack X.prog X.w H s Q E0) s := by
  obtain ⟨⟨oc, vs, t, hoc, hdc, hvc⟩, _, _⟩ := I.hok c' _ hc
  refine PySem.W.kla_callFunE hr.depth ho rfl L.co L.gen rfl ⟨c', oc, vs, t, rfl, hoc, hdc, hvc⟩ ?_
  rw [hbind]
  refine wpAny_pure (wpAny_newFunctionEnv (fun y hy => (L.own y hy).2) (fun y hy => ?_) (fun h₁ hns hsb => ⟨I.nolimit.fresh _ hsb, ?_⟩) L.kind)
  · rw [List.mem_singleton.mp hy]; exact L.loc
  · show codeAny _ _ (.expr body (lamEnv X scope s.heap.objs.size f c')) _ _
    have kp : ∀ b o, s.heap.get? b = some o → h₁.get? b = some o := fun b o e => hsb.extBut b o (Nat.ne_of_lt (Heap.lt_size e)) (Heap.get?_push_of_some _ e)
    have J := lam1_start (f := f) (c' := c') (tk := s.toks + ([(a, u)] : List (Str × Value)).length) I L hA hr.hd hns kp hN hj r
    refine PySem.W.kla_codeExpr (wpAny_mono ((hb (hr.deeper _)).run [] _ _ H Q J ht) (fun v s' hq => ?_) fun e s' hq => hq.elim)
    obtain ⟨w', H', J', rv, q⟩ := hq
    exact ⟨w', H', J'.os, J'.bare, J'.base, J'.hok, rv, q⟩

/-- a lambda is made: the function is known from now on -/
def FnO (q : Str) (params : Arguments) (body : Expr) (scope : Scope) (cl : List (Str × Addr)) (pm : Value) (c' : Addr) (ctv : Value) (f : Addr) : HO := .ext fun h => h.get? f = some (PySem.W.kla_obj "<lambda>" q params body scope cl pm c' ctv)
theorem fnO_ok {P : Program} {w : World} {H : Hp} {h : Heap} {q : Str} {params : Arguments} {body : Expr} {scope : Scope} {cl : List (Str × Addr)} {pm : Value} {c' : Addr} {ctv : Value} {f : Addr} (e : h.get? f = some (PySem.W.kla_obj "<lambda>" q params body scope cl pm c' ctv)) : ObjOk P w H h f (FnO q params body scope cl pm c' ctv f) :=
  ⟨e, ⟨_, e⟩, fun h1 h2 a b => b _ a⟩
theorem lam_mk {T : Th} {Hf Hr : Hp} {c P : Addr} {params : Arguments} {body : Expr} {scope : Scope} {pos : Pos} {E : Value → Shared → Prop} {Q : Value → Shared → Prop} (I : Inv X pins σ H s) (w : Wd X.K Hf Hr H T) (tb : TabB X.base X.mg c P) (hcode : X.env.code = .ref c) (hT : T P = some (.tab (X.env.qual ++ "<lambda>")))
    (hdef : defaultsOf params X.env = ([], [])) (hfree : ∀ y ∈ scope.names, y.2 = .free → ∃ c, X.env.cells.lookup y.1 = some c)
    (h : ∀ (f c' : Addr) (pm ctv : Value) (H1 Hf1 : Hp) (s' : Shared), Inv X pins σ H1 s' → Ex Hf Hf1 → Wd X.K Hf1 Hr H1 T → Hf1 f = some (FnO (X.env.qual ++ "<lambda>") params body scope (cloFrom X.env.cells scope.names []) pm c' ctv f) → Hf1 c' = some (CodeO c' (X.env.qual ++ "<lambda>")) → Q (.ref f) s') :
    wpAny (model X.prog X.w) X.A (eval (.Lambda params body scope pos) X.env) Q E s := by
  have ho := w.to P _ hT
  simp only [Own] at ho
  obtain ⟨ps, hP, ht, ha⟩ := ho
  refine PySem.W.kla_eval hdef ?_
  have bP := tb.bm.keeps I.bk
  have hP' : s.heap.get? P = some { cls := .none, data := .fields ps } := I.hok P _ hP
  cases hc : codeAmong pos ps.toList with
  | some cv =>
    obtain ⟨c', e, hco⟩ := ha pos cv hc
    subst e
    refine PySem.W.kla_makeFunctionHit (mg := X.mg) (c := c) (P := P) (ps := ps) (closure_ok hfree) I.ok.glob (I.mod.glob.keeps I.bk) hcode (tb.code.keeps I.bk) hP' ht hc bP fun ctv h' tk hx hsz => ?_
    have hn : H h'.objs.size = none := I.hok.fresh hsz
    refine h h'.objs.size c' _ ctv _ _ _ (I.laid (a := h'.objs.size) (o := FnO (X.env.qual ++ "<lambda>") params body scope (cloFrom X.env.cells scope.names []) ((X.mg "__name__").getD .none) c' ctv h'.objs.size) (t' := tk) (fun b o e => Heap.get?_push_of_some _ (hx b o e)) hsz (fnO_ok (Heap.get?_push_size _ rfl))) (Ex.new (w.f.back hn)) (w.new hn) upd_same ?_
    rw [upd_ne (fun z => by rw [z, w.f.back hn] at hco; cases hco)]; exact hco
  | none =>
    refine PySem.W.kla_makeFunction (mg := X.mg) (c := c) (P := P) (ps := ps) (closure_ok hfree) I.ok.glob (I.mod.glob.keeps I.bk) hcode (tb.code.keeps I.bk) hP' ht hc tb.gP bP fun c' ctv h' tk hx hge hlt hrec htb => ?_
    obtain ⟨c2, oc, vs, t, e2, hoc, hd, hv⟩ := hrec
    cases e2
    have nC : H c' = none := I.hok.fresh hge
    have hPc : P ≠ c' := ne_of_none hP nC
    have I1 := inv_table (t' := tk) (more := #[rawInt pos.line, rawInt pos.col, .ref c']) (h' := h') I hP hx htb hge ⟨oc, vs, t, hoc, hd, hv⟩
    have hsz : s.heap.objs.size ≤ h'.objs.size := Nat.le_trans hge (Nat.le_of_lt hlt)
    have n1 : h'.objs.size ≠ c' := Nat.ne_of_gt hlt
    have n2 : h'.objs.size ≠ P := Nat.ne_of_gt (Nat.lt_of_lt_of_le (Heap.lt_size hP') hsz)
    have hfC : Hf c' = none := w.f.back nC
    -- the world behind the table's turn
    have wA : Wd X.K (upd Hf c' (CodeO c' (X.env.qual ++ "<lambda>"))) Hr (upd H c' (CodeO c' (X.env.qual ++ "<lambda>"))) T := w.new nC
    have tq : TabQ (upd Hf c' (CodeO c' (X.env.qual ++ "<lambda>"))) (X.env.qual ++ "<lambda>") (ps ++ #[rawInt pos.line, rawInt pos.col, .ref c']) := by
      have eL : (ps ++ #[rawInt pos.line, rawInt pos.col, .ref c']).toList = ps.toList ++ [rawInt pos.line, rawInt pos.col, .ref c'] := by simp
      refine ⟨by rw [eL]; exact PySem.TriplesOk_snoc _ _ _ _ ht, fun p' cv hcv => ?_⟩
      rw [eL] at hcv
      rcases among_app (pos := pos) _ ht hcv with z | z
      · obtain ⟨c0, e1, e2⟩ := ha p' cv z
        exact ⟨c0, e1, by rw [upd_ne (fun y => by rw [y, hfC] at e2; cases e2)]; exact e2⟩
      · exact ⟨c', z, upd_same⟩
    have hPT : upd H c' (CodeO c' (X.env.qual ++ "<lambda>")) P = some (.tbl ps) := by rw [upd_ne hPc]; exact hP
    have wB := wA.turn (o := .tbl (ps ++ #[rawInt pos.line, rawInt pos.col, .ref c'])) (c' := .tab (X.env.qual ++ "<lambda>")) hT (fun _ _ _ z => nomatch z) (fun _ _ _ z => nomatch z) (by simp only [Own]; exact ⟨_, upd_same, tq⟩)
    have eT : tset T P (.tab (X.env.qual ++ "<lambda>")) = T := by
      funext b; unfold tset
      split
      · rename_i z; rw [z, hT]
      · rfl
    rw [eT] at wB
    have eH : upd (upd H c' (CodeO c' (X.env.qual ++ "<lambda>"))) P (.tbl (ps ++ #[rawInt pos.line, rawInt pos.col, .ref c'])) = upd (upd H P (.tbl (ps ++ #[rawInt pos.line, rawInt pos.col, .ref c']))) c' (CodeO c' (X.env.qual ++ "<lambda>")) := by
      funext b; unfold upd
      by_cases z : b = P
      · subst z; simp [hPc]
      · simp [z]
    rw [eH] at wB
    have hn : upd (upd H P (.tbl (ps ++ #[rawInt pos.line, rawInt pos.col, .ref c']))) c' (CodeO c' (X.env.qual ++ "<lambda>")) h'.objs.size = none := by
      rw [upd_ne n1, upd_ne n2]; exact I.hok.fresh hsz
    have hnf : upd Hf c' (CodeO c' (X.env.qual ++ "<lambda>")) h'.objs.size = none := wB.f.back hn
    refine h h'.objs.size c' _ ctv _ _ _ (I1.laid (a := h'.objs.size) (o := FnO (X.env.qual ++ "<lambda>") params body scope (cloFrom X.env.cells scope.names []) ((X.mg "__name__").getD .none) c' ctv h'.objs.size) (t' := tk) (fun b o e => Heap.get?_push_of_some _ e) (Nat.le_refl _) (fnO_ok (Heap.get?_push_size _ rfl))) ((Ex.new hfC).trans (Ex.new hnf)) (wB.new hn) upd_same ?_
    rw [upd_ne n1.symm, upd_same]
end
end PU
set_option Elab.async false
set_option linter.all false
set_option maxRecDepth 100000
/-! P8: min by a lambda. -/
namespace PU
open PySem PySem.Spec PyProof.Rows L2 LamX
section
variable {X : Cx} {pins : List (Addr × Obj)} {σ : L2.St} {s : Shared}
/-- where the search stands: the iterator, the best so far with its key -/
structure MSt (X : Cx) (pins : List (Addr × Obj)) (σ : L2.St) (Hf Hr : Hp) (T : Th) (l Ia S : Addr) (xs : List V) (kf : Nat → Int) (j : Nat) (best : Option Nat) (s : Shared) : Prop where
  ex : ∃ H' Hf' c items, Inv X pins σ H' s ∧ Ex Hf Hf' ∧ Wd X.K Hf' Hr H' T ∧ FpOk X pins H' Ia ∧ FpOk X pins H' S ∧ s.heap.IsListIter Ia l j ∧ s.heap.get? S = some (seqObj "list" items c) ∧
    match best with | none => items = #[] | some i => ∃ vb tb x, items = #[vb, .int (kf i) tb] ∧ xs[i]? = some x ∧ L2.RelV x vb
theorem fpOk_of {H H' : Hp} {b : Addr} (f : FpOk X pins H b) (h : H' b = none) : FpOk X pins H' b := ⟨h, f.2⟩
/-- the key of one item -/
def KeyOk (X : Cx) (pins : List (Addr × Obj)) (σ : L2.St) (Hf Hr : Hp) (T : Th) (f : Addr) (xs : List V) (kf : Nat → Int) : Prop :=
  ∀ (i : Nat) (x : V) (u : Value) (H' Hf' : Hp) (s : Shared), xs[i]? = some x → L2.RelV x u → Inv X pins σ H' s → Ex Hf Hf' → Wd X.K Hf' Hr H' T →
    codeAny (model X.prog X.w) X.A.in1 (.call (.ref f) ⟨[u], []⟩) (CR CX0 X.stack X.prog X.w H' s (fun v H2 => v = .int (kf i) ∧ ∃ Hf2, Ex Hf' Hf2 ∧ Wd X.K Hf2 Hr H2 T) E0) s
theorem key_run {Hf Hr H' Hf' : Hp} {T : Th} {f : Addr} {xs : List V} {kf : Nat → Int} {l Ia S : Addr} {i : Nat} {x : V} {u : Value} {c : Nat} {items : Array Value} {m : Nat} {E : Value → Shared → Prop} {R : Value → Shared → Prop} (K : KeyOk X pins σ Hf Hr T f xs kf) (hx : xs[i]? = some x) (r : L2.RelV x u) (I : Inv X pins σ H' s) (e : Ex Hf Hf') (w : Wd X.K Hf' Hr H' T) (f1 : FpOk X pins H' Ia) (f2 : FpOk X pins H' S) (it : s.heap.IsListIter Ia l m) (hS : s.heap.get? S = some (seqObj "list" items c))
    (h : ∀ t s2 H2 Hf2, Inv X pins σ H2 s2 → Ex Hf' Hf2 → Wd X.K Hf2 Hr H2 T → FpOk X pins H2 Ia → FpOk X pins H2 S → s2.heap.IsListIter Ia l m → s2.heap.get? S = some (seqObj "list" items c) → R (.int (kf i) t) s2) : wpAny (model X.prog X.w) X.A.in1 (call (.ref f) [u]) R E s := by
  obtain ⟨oI, ho1, ho2, ho3⟩ := id it
  refine wpAny_call (codeAny_mono (K i x u H' Hf' s hx r I e w) fun r s2 hq => ?_)
  cases r with
  | error e => exact (hq : False).elim
  | ok fl =>
    cases fl with
    | next => exact False.elim hq
    | brk => exact False.elim hq
    | cont => exact False.elim hq
    | ret v =>
      have hq' : CE X.stack X.prog X.w H' s _ v s2 := hq
      have un : ∀ b o, s.heap.get? b = some o → FpOk X pins H' b → s2.heap.get? b = some o := by
        obtain ⟨_, H2, _, _, un, _, _⟩ := hq'
        intro b o eb fb
        refine un.keep b o eb fb.1 (fun hm => ?_) (by simp)
        rcases List.mem_cons.mp (I.stkSub b hm) with z | z
        · exact fb.2.1 z
        · exact fb.2.2.1 z
      have fr : ∀ b o, s.heap.get? b = some o → FpOk X pins H' b → ∀ H2, (∃ v', CE X.stack X.prog X.w H' s (fun _ H3 => H3 = H2) v' s2) → H2 b = none := by
        intro b o eb fb H2 ⟨v', hc⟩
        obtain ⟨_, H3, _, _, un, _, _, e3⟩ := hc
        subst e3
        exact un.free b o eb fb.1 (by simp)
      obtain ⟨x2, H2, os, bare, un2, hok, rv, ev, Hf2, e2, w2⟩ := hq'
      obtain ⟨x3, H3, I3, r3, z3⟩ := I.after (Q := fun v H3 => v = x2 ∧ H3 = H2) ⟨x2, H2, os, bare, un2, hok, rv, rfl, rfl⟩
      obtain ⟨z3, z4⟩ := z3
      subst z3 z4 ev
      obtain ⟨t, rfl⟩ := r3
      exact h t s2 H3 Hf2 I3 e2 w2 (fpOk_of f1 (un2.free _ _ ho1 f1.1 (by simp))) (fpOk_of f2 (un2.free _ _ hS f2.1 (by simp))) ⟨oI, un _ _ ho1 f1, ho2, ho3⟩ (un _ _ hS f2)
/-- behind a turn of the iterator -/
theorem it_turn {H' : Hp} {it : Addr} {h' : Heap} {tk : Nat} (I : Inv X pins σ H' s) (f : FpOk X pins H' it) (k : ∀ b o, b ∉ [it] → s.heap.get? b = some o → h'.get? b = some o) : Inv X pins σ H' { s with heap := h', toks := tk } :=
  I.turned (t' := tk) (fun b o hb e => k b o (by simpa using hb) e) f.1 f.2.1 f.2.2.2.1 f.2.2.2.2.1 f.2.2.2.2.2
theorem s_turn {H' : Hp} {S : Addr} {its : Array Value} (I : Inv X pins σ H' s) (f : FpOk X pins H' S) : Inv X pins σ H' { s with heap := s.heap.update S (Obj.mapSeq fun _ => its) } :=
  I.turned (t' := s.toks) (fun b o hb e => ((Heap.SameBut.update s.heap S _).2 b hb).trans e) f.1 f.2.1 f.2.2.2.1 f.2.2.2.2.1 f.2.2.2.2.2
theorem min_loop {Hf Hr : Hp} {T : Th} {f l Ia S : Addr} {xs : List V} {kf : Nat → Int} {R : Result → Shared → Prop} (K : KeyOk X pins σ Hf Hr T f xs kf) (hl : Hf l = some (.lst xs)) (hlI : l ≠ Ia) (hSI : S ≠ Ia) (hh : X.A.handled = none)
    (hR : ∀ i x v s' H2 Hf2, xs[i]? = some x → L2.RelV x v → (∀ j, j < xs.length → kf i ≤ kf j ∧ (j < i → kf i < kf j)) → Inv X pins σ H2 s' → Ex Hf Hf2 → Wd X.K Hf2 Hr H2 T → R (.ok (.ret v)) s') :
    ∀ (r j : Nat) (best : Option Nat) (s : Shared), xs.length - j = r → j ≤ xs.length → (match best with | none => j = 0 ∧ 0 < xs.length | some i => i < j ∧ ∀ j', j' < j → kf i ≤ kf j' ∧ (j' < i → kf i < kf j')) → MSt X pins σ Hf Hr T l Ia S xs kf j best s →
      codeAny (model X.prog X.w) X.A (.builtin "min.loop" ⟨[.ref Ia, .ref f, .ref S], []⟩) R s := by
  have hname : (toString "min" ++ toString ".loop" : String) = "min.loop" := by decide
  intro r
  induction r with
  | zero =>
    intro j best s hr hj hb ⟨H', Hf', c, items, I, e, w, f1, f2, it, hS, hm⟩
    have hin : j = xs.length := by omega
    cases best with
    | none => omega
    | some i =>
      obtain ⟨vb, tb, x, rfl, hx, rx⟩ := hm
      obtain ⟨its, rv, pl, hz⟩ := I.list (SqL.of (w.f _ _ (e _ _ hl)))
      have Wk := Walks.list (prog := X.prog) (w := X.w) (A := X.A.in1) hh Ia l hlI its.toArray
      have hsz : its.toArray.size = xs.length := by rw [List.size_toArray, rv.length]
      refine codeAny_builtin PySem.F.entry_min_loop ?_
      rw [Around.under_plainId PySem.F.plain_min_loop _]
      show wpAny _ X.A.in1 (seqItems? (.ref S) >>= _) _ _ _
      refine wpAny_bind (wpAny_seqItems hS rfl ?_)
      show wpAny _ X.A.in1 (tryCatch (pyNext (.ref Ia)) _ >>= _) _ _ _
      refine wpAny_bind (wpAny_tryCatch (Wk.done _ _ _ ⟨by rw [hsz, ← hin]; exact it, pl.isList⟩ fun h' tk' hk' => ?_))
      have I1 := it_turn (tk := tk') I f1 hk'
      have hS' := hk' S _ (by simpa using hSI) hS
      show wpAny _ X.A.in1 (updateSeq S (fun _ => #[]) >>= _) _ _ _
      refine wpAny_bind (wpAny_updateSeq hS' rfl (wpAny_bind (wpAny_letGo (wpAny_pure ?_))))
      exact hR i x vb _ H' Hf' hx rx (fun j' hj' => hb.2 j' (by omega)) (s_turn (its := #[]) I1 f2) e w
  | succ r ih =>
    intro j best s hr hj hb ⟨H', Hf', c, items, I, e, w, f1, f2, it, hS, hm⟩
    have hlt : j < xs.length := by omega
    obtain ⟨its, rv, pl, hz⟩ := I.list (SqL.of (w.f _ _ (e _ _ hl)))
    have Wk := Walks.list (prog := X.prog) (w := X.w) (A := X.A.in1) hh Ia l hlI its.toArray
    have hsz : its.toArray.size = xs.length := by rw [List.size_toArray, rv.length]
    have hxj : xs[j]? = some xs[j] := List.getElem?_eq_getElem hlt
    refine codeAny_builtin PySem.F.entry_min_loop ?_
    rw [Around.under_plainId PySem.F.plain_min_loop _]
    show wpAny _ X.A.in1 (seqItems? (.ref S) >>= _) _ _ _
    refine wpAny_bind (wpAny_seqItems hS rfl ?_)
    show wpAny _ X.A.in1 (tryCatch (pyNext (.ref Ia)) _ >>= _) _ _ _
    refine wpAny_bind (wpAny_tryCatch (Wk.item j _ _ _ (by rw [hsz]; exact hlt) ⟨it, pl.isList⟩ fun v h' tk' hP hst' hk' => ?_))
    obtain ⟨u, hu, ru⟩ := rv.get hxj
    have hv : v = u := by
      have : its[j]? = some v := by simpa using hP
      rw [hu] at this; exact (Option.some.inj this).symm
    subst hv
    have I1 := it_turn (tk := tk') I f1 hk'
    have hS' := hk' S _ (by simpa using hSI) hS
    show wpAny _ X.A.in1 (tryCatch (holding [v] (call (.ref f) [v])) _ >>= _) _ _ _
    refine wpAny_bind (wpAny_tryCatch (wpAny_holding (key_run K hxj ru I1 e w f1 f2 hst'.1 hS' fun t2 s2 H2 Hf2 I2 e2 w2 g1 g2 it2 hS2 => ?_)))
    cases best with
    | none =>
      subst hm
      show wpAny _ X.A.in1 (updateSeq S (fun _ => #[v, .int (kf j) t2]) >>= _) _ _ _
      obtain ⟨c2, hc2⟩ : ∃ c2, (s2.heap.update S (Obj.mapSeq fun _ => #[v, .int (kf j) t2])).get? S = some (seqObj "list" #[v, .int (kf j) t2] c2) := ⟨_, get?_update_seq hS2 fun _ => #[v, .int (kf j) t2]⟩
      refine wpAny_bind (wpAny_updateSeq hS2 rfl ?_)
      rw [hname]
      have hj0 := hb.1
      obtain ⟨oI, y1, y2, y3⟩ := it2
      exact wpAny_pure ⟨plainId_quiet PySem.F.plain_min_loop _, ih (j + 1) (some j) _ (by omega) hlt ⟨Nat.lt_succ_self _, fun j' hj' => by
        have : j' = j := by omega
        subst this
        exact ⟨by omega, fun h => by omega⟩⟩ ⟨H2, Hf2, c2, _, s_turn I2 g2, e.trans e2, w2, g1, g2, ⟨oI, ((Heap.SameBut.update s2.heap S _).2 Ia hSI.symm).trans y1, y2, y3⟩, hc2, v, t2, _, rfl, hxj, ru⟩⟩
    | some i =>
      obtain ⟨vb, tb, x, rfl, hx, rx⟩ := hm
      show wpAny _ X.A.in1 (tryCatch (holding [v, .int (kf j) t2] (richCompare .Lt (.int (kf j) t2) (.int (kf i) tb) >>= _)) _ >>= _) _ _ _
      refine wpAny_bind (wpAny_tryCatch (wpAny_holding (wpAny_bind (CmpOf.ints_lt (prog := X.prog) (w := X.w) (A := X.A.in1) (P := fun i v => ∃ t, v = .int (kf i) t) kf (fun i v h => h) j i _ _ _ _ _ ⟨t2, rfl⟩ ⟨tb, rfl⟩ ?_))))
      refine wpAny_bind (wpAny_holding (wpAny_truthy_bool (wpAny_bind (wpAny_letGo (wpAny_pure ?_)))))
      by_cases hk : kf j < kf i
      · obtain ⟨c2, hc2⟩ : ∃ c2, (s2.heap.update S (Obj.mapSeq fun _ => #[v, .int (kf j) t2])).get? S = some (seqObj "list" #[v, .int (kf j) t2] c2) := ⟨_, get?_update_seq hS2 fun _ => #[v, .int (kf j) t2]⟩
        simp only [hk, decide_true, if_true]
        refine wpAny_bind (wpAny_updateSeq hS2 rfl (wpAny_bind (wpAny_letGo ?_)))
        rw [hname]
        obtain ⟨oI, y1, y2, y3⟩ := it2
        exact wpAny_pure ⟨plainId_quiet PySem.F.plain_min_loop _, ih (j + 1) (some j) _ (by omega) hlt ⟨Nat.lt_succ_self _, fun j' hj' => by
          by_cases z : j' = j
          · subst z; exact ⟨by omega, fun h => by omega⟩
          · have q := (hb.2 j' (by omega)).1
            exact ⟨by omega, fun _ => by omega⟩⟩ ⟨H2, Hf2, c2, _, s_turn I2 g2, e.trans e2, w2, g1, g2, ⟨oI, ((Heap.SameBut.update s2.heap S _).2 Ia hSI.symm).trans y1, y2, y3⟩, hc2, v, t2, _, rfl, hxj, ru⟩⟩
      · simp only [hk, decide_false, Bool.false_eq_true, if_false]
        refine wpAny_bind (wpAny_letGo ?_)
        rw [hname]
        exact wpAny_pure ⟨plainId_quiet PySem.F.plain_min_loop _, ih (j + 1) (some i) _ (by omega) hlt ⟨Nat.lt_succ_of_lt hb.1, fun j' hj' => by
          by_cases z : j' = j
          · subst z; exact ⟨by omega, fun h => by have := hb.1; omega⟩
          · exact hb.2 j' (by omega)⟩ ⟨H2, Hf2, c, _, I2, e.trans e2, w2, g1, g2, it2, hS2, vb, tb, x, rfl, hx, rx⟩⟩
/-- min(xs, key=f) -/
theorem min_run {Hf Hr H' : Hp} {T : Th} {f l : Addr} {xs : List V} {kf : Nat → Int} {E : Value → Shared → Prop} {Q : Value → Shared → Prop} (I : Inv X pins σ H' s) (w : Wd X.K Hf Hr H' T) (K : KeyOk X pins σ Hf Hr T f xs kf) (hl : Hf l = some (.lst xs)) (h0 : 0 < xs.length) (hh : X.A.handled = none)
    (hQ : ∀ i x v s' H2 Hf2, xs[i]? = some x → L2.RelV x v → (∀ j, j < xs.length → kf i ≤ kf j ∧ (j < i → kf i < kf j)) → Inv X pins σ H2 s' → Ex Hf Hf2 → Wd X.K Hf2 Hr H2 T → Q v s') :
    wpAny (model X.prog X.w) X.A (call (.builtin "min") [.ref l] [(Str.ofString "key", .ref f)]) Q E s := by
  have hname : (toString "min" ++ toString ".loop" : String) = "min.loop" := by decide
  obtain ⟨its, rv, pl, hz⟩ := I.list (SqL.of (w.f _ _ hl))
  refine kmk_tree PySem.F.kind_min PySem.F.plain_min PySem.F.entry_min (kmk_min_key _ _) ?_
  show wpAny _ X.A.in1 (Builtin.Builtins.bindParams "min" ["key", "default"] 0 ⟨[], [(Str.ofString "key", .ref f)]⟩ >>= _) _ _ s
  refine wpAny_bind (wpAny_of_eq (show Builtin.Builtins.bindParams "min" ["key", "default"] 0 ⟨[], [(Str.ofString "key", .ref f)]⟩ = pure [some (.ref f), none] from rfl) (wpAny_bind (wpAny_pure ?_)))
  refine wpAny_bind (wpAny_pyIter_list pl.isList (wpAny_bind (wpAny_newList ?_ (Nat.zero_le _))))
  rw [hname]
  have hS : (s.heap.push { cls := .type "list_iterator", data := .fields #[.ref l, .int 0 0] }).objs.size = s.heap.objs.size + 1 := size_push' ..
  have hll : l < s.heap.objs.size := I.hok.lt (w.f _ _ hl)
  have I2 : Inv X pins σ H' { s with heap := (s.heap.push { cls := .type "list_iterator", data := .fields #[.ref l, .int 0 0] }).push (seqObj "list" #[] 0) } := I.kept (t' := s.toks) fun b o e => Heap.get?_push_of_some _ (Heap.get?_push_of_some _ e)
  refine wpAny_pure ⟨plainId_quiet PySem.F.plain_min_loop _, min_loop (Ia := s.heap.objs.size) (S := (s.heap.push { cls := .type "list_iterator", data := .fields #[.ref l, .int 0 0] }).objs.size) K hl (Nat.ne_of_lt hll) (by rw [hS]; exact Nat.ne_of_gt (Nat.lt_succ_self _)) hh (fun i x v s' H2 Hf2 a b c d e g => hQ i x v s' H2 Hf2 a b c d e g) _ 0 none _ rfl (Nat.zero_le _) ⟨rfl, h0⟩
    ⟨H', Hf, 0, #[], I2, Ex.refl _, w, I.fpOk (Nat.le_refl _) (I.hok.fresh (Nat.le_refl _)), I.fpOk (by rw [hS]; exact Nat.le_succ _) (I.hok.fresh (by rw [hS]; exact Nat.le_succ _)), ?_, Heap.get?_push_size _ rfl, rfl⟩⟩
  exact ⟨_, Heap.get?_push_of_some _ (Heap.get?_push_size _ rfl), rfl, rfl⟩
end
end PU
set_option Elab.async false
set_option linter.all false
set_option maxRecDepth 100000
/-! P9: min by a lambda as an expression; defs that hold a lambda. -/
namespace PU
open PySem PySem.Spec PyProof.Rows L2 LamX
section
variable {X : Cx} {a e : Expr} {ρ : Rho} {T : Th} {pos p lpos kpos : Pos} {ds : List D}
def tLamD (X : Cx) (T : Th) (params : Arguments) (body : Expr) (scope : Scope) : TE := fun σ H Q => ∃ Hf Hr, Wd X.K Hf Hr H T ∧ ∀ (f c' : Addr) (pm ctv : Value) (H1 Hf1 : Hp), Ex Hf Hf1 → Wd X.K Hf1 Hr H1 T →
  Hf1 f = some (FnO (X.env.qual ++ "<lambda>") params body scope (cloFrom X.env.cells scope.names []) pm c' ctv f) → Hf1 c' = some (CodeO c' (X.env.qual ++ "<lambda>")) → Q (.ref f) H1
theorem pe_lamD {c P : Addr} {params : Arguments} {body : Expr} {scope : Scope} (tb : TabB X.base X.mg c P) (hcode : X.env.code = .ref c) (hT : T P = some (.tab (X.env.qual ++ "<lambda>"))) (hdef : defaultsOf params X.env = ([], []))
    (hfree : X.Ok → ∀ y ∈ scope.names, y.2 = .free → ∃ c, X.env.cells.lookup y.1 = some c) : PE X (.Lambda params body scope lpos) (tLamD X T params body scope) :=
  ⟨fun pins s σ H Q I ⟨Hf, Hr, w, q⟩ => lam_mk I w tb hcode hT hdef (hfree I.ok) fun f c' pm ctv H1 Hf1 s' I1 e1 w1 h1 h2 => ⟨.ref f, H1, I1, rfl, q f c' pm ctv H1 Hf1 e1 w1 h1 h2⟩⟩
theorem ev_minkey {k j : Nat} {x : Str} {params : Arguments} {body : Expr} {scope : Scope} {c P : Addr} {dres : D} (kf : Nat → Int) (ha : Ev X a ρ T (.lst ds)) (h0 : 0 < ds.length) (hm : X.mg "min" = none) (hc : X.calm = true) (hN : X.N.Nodup) (hj : X.N[j]? = some x) (hl : lam1B X.env.scope scope x = true)
    (tb : TabB X.base X.mg c P) (hcode : X.env.code = .ref c) (hT : T P = some (.tab (X.env.qual ++ "<lambda>"))) (hdef : defaultsOf params X.env = ([], [])) (hr : Room (k + 2) X.A)
    (hbind : ∀ (q : Str) (cl : List (Str × Addr)) (pm cd ctv u : Value), bindArgs (PySem.W.kla_fn "<lambda>" q params body scope cl pm cd ctv) ⟨[u], []⟩ = pure [(x, u)])
    (hb : ∀ i d, ds[i]? = some d → ∀ s H f c', Room k (lamC X X.A.in1 s H scope f c').A → Ev (lamC X X.A.in1 s H scope f c') body (ρ.set j (some d)) T (.int (kf i)))
    (hres : ∀ i d, ds[i]? = some d → (∀ j, j < ds.length → kf i ≤ kf j ∧ (j < i → kf i < kf j)) → d = dres)
    (hg : Gl X "min" := by rfl) (he : starEach [a] X.env = (false, eval a X.env) :: starEach [] X.env := by rfl)
    (hbk : backTo pos (starEach [a] X.env) = (false, eval a X.env) :: backTo pos (starEach [] X.env) := by rfl) (hpl : (backTo pos (starEach [a] X.env)).any (·.1) = false := by rfl)
    (hall : (backToKw pos (keywordEach [⟨some "key", .Lambda params body scope lpos, kpos⟩] X.env)).all (·.1.isSome) = true := by rfl) (hnone : (backToKw pos (keywordEach [⟨some "key", .Lambda params body scope lpos, kpos⟩] X.env)).any (·.1.isNone) = false := by rfl)
    (hks : (backToKw pos (keywordEach [⟨some "key", .Lambda params body scope lpos, kpos⟩] X.env)).filterMap (·.1) = [Str.ofString "key"] := by rfl) :
    Ev X (.Call (.Name "min" p) [a] [⟨some "key", .Lambda params body scope lpos, kpos⟩] pos) ρ T dres := by
  have L := lam1_by hl
  refine ⟨fun pins s σ H Q I ⟨Hf, Hr, w, en, q⟩ => ?_⟩
  refine wpAny_Call_Name_kw (ld_blt (u := .builtin "min") I hg hm (by decide +kernel) ?_ (by decide) (by decide))
  refine PyProof.Rows.callWith_kw (thn ((eva_cons ha eva_nil he).run pos pins s σ H (fun vs H1 => ∃ Hf1, Ex Hf Hf1 ∧ Wd X.K Hf1 Hr H1 T ∧ IsL X.K Hf1 [PU.D.lst ds] vs) I ⟨Hf, Hr, w, en, fun vs H2 Hf2 e2 w2 i => ⟨Hf2, e2, w2, i⟩⟩) fun us s1 ⟨vs, H1, I1, r1, Hf1, e1, w1, il⟩ => ?_) hbk hpl hall hnone
  obtain ⟨v, rfl, i⟩ := isL1 il
  obtain ⟨l, xs, rfl, hlx, ix⟩ := is_lst.mp i
  have K0 : PK X [⟨some "key", .Lambda params body scope lpos, kpos⟩] (tCons (tLamD X T params body scope) tNil) := pk_cons (pe_lamD tb hcode hT hdef fun ok y hy e => L.has ok y hy e) pk_nil
  refine thn (K0.run pos pins s1 σ H1 (fun zs H2 => ∃ f c' pm ctv Hf2, zs = [.ref f] ∧ Ex Hf1 Hf2 ∧ Wd X.K Hf2 Hr H2 T ∧ Hf2 f = some (FnO (X.env.qual ++ "<lambda>") params body scope (cloFrom X.env.cells scope.names []) pm c' ctv f) ∧ Hf2 c' = some (CodeO c' (X.env.qual ++ "<lambda>"))) I1 ⟨Hf1, Hr, w1, fun f c' pm ctv H2 Hf2 e2 w2 h1 h2 => ⟨f, c', pm, ctv, Hf2, rfl, e2, w2, h1, h2⟩⟩) fun ws s2 ⟨zs, H2, I2, r2, f, c', pm, ctv, Hf2, ez, e2, w2, hF, hC⟩ => ?_
  subst ez
  rw [hks]
  obtain ⟨u1, rfl, ru1⟩ := vals1 r1
  obtain ⟨u2, rfl, ru2⟩ := vals1 r2
  cases ru1
  cases ru2
  have hlen := ix.len
  refine min_run (Hf := Hf2) (kf := kf) I2 w2 (fun i x u H' Hf' s' hx rx I' e' w' => ?_) (e2 _ _ hlx) (by rw [← hlen]; exact h0) (I2.ok.hd hc) fun i x v s' H3 Hf3 hx rv hbest I3 e3 w3 => ?_
  · obtain ⟨d, hd, isd⟩ := ix.getV hx
    have hFo := I'.hok f _ (w'.f _ _ (e' _ _ hF))
    refine run_lam1 (k := k) I' L I'.env0.in1.frames hr.in1 hN hj rx hFo.1 (w'.f _ _ (e' _ _ hC)) (hbind _ _ _ _ _ _) (hb i d hd s' H' f c') ⟨Hf', Hr, w', ((((en.mono e1).mono e2).mono e').set j ((isd.mono e2).mono e')), fun v H4 Hf4 e4 w4 i4 => ⟨is_int.mp i4, Hf4, e4, w4⟩⟩
  · obtain ⟨d, hd, isd⟩ := ix.getV hx
    have ed := hres i d hd (by rw [hlen]; exact hbest)
    subst ed
    exact ⟨x, H3, I3, rv, q x H3 Hf3 ((e1.trans e2).trans e3) w3 ((isd.mono e2).mono e3)⟩
end
end PU
set_option Elab.async false
set_option linter.all false
set_option maxRecDepth 100000
/-! P10: in, chains, == of data, strip, update, pow, a dict of pairs. -/
namespace PU
open PySem PySem.Spec PyProof.Rows L2
section
variable {X : Cx} {a b c e o f : Expr} {es : List Expr} {ρ : Rho} {T : Th} {pos p p2 q2 : Pos} {d d1 d2 : D} {ds : List D} {x : Str}

/-! ### in a sequence of flat data -/
theorem scl_flat {d : D} {x : V} (h : scl d = some x) : flatV x = true := by
  cases d <;> simp [scl] at h <;> subst h <;> rfl
def sclL : List D → Option (List V)
  | [] => some []
  | d :: ds => match scl d, sclL ds with
    | some x, some xs => some (x :: xs)
    | _, _ => none
theorem sclL_is {K : Fg} {Hf : Hp} : ∀ {ds : List D} {xs vs : List V}, sclL ds = some xs → IsL K Hf ds vs → vs = xs ∧ xs.all flatV = true
  | [], xs, vs, h, i => by
    simp only [sclL, Option.some.injEq] at h
    simp only [IsL] at i
    subst h i
    exact ⟨rfl, rfl⟩
  | d :: ds, xs, vs, h, i => by
    simp only [IsL] at i
    obtain ⟨v, r, rfl, i1, i2⟩ := i
    simp only [sclL] at h
    split at h
    · rename_i y ys e1 e2
      cases h
      obtain ⟨rfl, f⟩ := sclL_is e2 i2
      rw [scl_is e1 i1]
      exact ⟨rfl, by rw [List.all_cons, scl_flat e1, f]; rfl⟩
    · cases h
theorem r2_inL {K : Fg} {T : Th} {neg : Bool} {y : V} {xs : List V} (h1 : scl d1 = some y) (h2 : sclL ds = some xs) : R2D K T (rIn K neg) d1 (.lst ds) (.bl (if neg then !inV y xs else inV y xs)) := fun u v Hf Hr H w hx hy Q q => by
  obtain ⟨p, vs, rfl, hp, l⟩ := is_lst.mp hy
  obtain ⟨rfl, f⟩ := sclL_is h2 l
  rw [scl_is h1 hx]
  exact ⟨p, _, rfl, .inl (SqL.of (w.f _ _ hp)), scl_flat h1, f, q _ H Hf (Ex.refl _) w (is_bl.mpr rfl)⟩
theorem ev_in {y : V} {xs : List V} (ha : Ev X a ρ T d1) (hb : Ev X b ρ T (.lst ds)) (h1 : scl d1 = some y := by rfl) (h2 : sclL ds = some xs := by rfl) (hm : behindInMarks .In b = false := by rfl) : Ev X (.Compare a [.In] [b] pos) ρ T (.bl (inV y xs)) := ev_cmp op_in_seq ha hb (r2_inL (neg := false) h1 h2) hm
theorem ev_nin {y : V} {xs : List V} (ha : Ev X a ρ T d1) (hb : Ev X b ρ T (.lst ds)) (h1 : scl d1 = some y := by rfl) (h2 : sclL ds = some xs := by rfl) (hm : behindInMarks .NotIn b = false := by rfl) : Ev X (.Compare a [.NotIn] [b] pos) ρ T (.bl (!inV y xs)) := ev_cmp op_notIn_seq ha hb (r2_inL (neg := true) h1 h2) hm
theorem evT_in {y : V} {xs : List V} (ha : Ev X a ρ T d1) (hb : Ev X b ρ T (.lst ds)) (h1 : scl d1 = some y := by rfl) (h2 : sclL ds = some xs := by rfl) (hm : behindInMarks .In b = false := by rfl) : EvT X (.Compare a [.In] [b] pos) ρ T (inV y xs) := evT_cmp op_in_seq ha hb (r2_inL (neg := false) h1 h2) hm
theorem evT_nin {y : V} {xs : List V} (ha : Ev X a ρ T d1) (hb : Ev X b ρ T (.lst ds)) (h1 : scl d1 = some y := by rfl) (h2 : sclL ds = some xs := by rfl) (hm : behindInMarks .NotIn b = false := by rfl) : EvT X (.Compare a [.NotIn] [b] pos) ρ T (!inV y xs) := evT_cmp op_notIn_seq ha hb (r2_inL (neg := true) h1 h2) hm

/-! ### a op1 b op2 c of ints -/
theorem ev_chain {op op' : CmpOp} {r r' : R2} {d3 : D} {k l : Bool} (ho : OpR X (compareOp op) r) (ho' : OpR X (compareOp op') r') (ha : Ev X a ρ T d1) (hb : Ev X b ρ T d2) (hc : Ev X c ρ T d3) (hr : R2D X.K T r d1 d2 (.bl k)) (hr' : R2D X.K T r' d2 d3 (.bl l))
    (hm : lastMarks [op, op'] [b, c] = false := by with_unfolding_all rfl) : Ev X (.Compare a [op, op'] [b, c] pos) ρ T (.bl (k && l)) :=
  PE_imp (pe_chain ho ho' ha hb hc hm) fun σ H Q ⟨Hf, Hr, w, en, q⟩ => ⟨Hf, Hr, w, en, fun x H1 Hf1 e1 w1 i1 => ⟨Hf1, Hr, w1, en.mono e1, fun y H2 Hf2 e2 w2 i2 =>
    hr x y Hf2 Hr H2 w2 (i1.mono e2) i2 _ fun z H3 Hf3 e3 w3 i3 => ⟨k, is_bl.mp i3, by
      cases k with
      | true => exact ⟨Hf3, Hr, w3, en.mono ((e1.trans e2).trans e3), fun u H4 Hf4 e4 w4 i4 => hr' y u Hf4 Hr H4 w4 (i2.mono (e3.trans e4)) i4 Q fun v H5 Hf5 e5 w5 i5 => q v H5 Hf5 ((((e1.trans e2).trans e3).trans e4).trans e5) w5 (by simpa using i5)⟩
      | false => exact q _ H3 Hf3 ((e1.trans e2).trans e3) w3 (is_bl.mpr rfl)⟩⟩⟩
theorem evT_chain {op op' : CmpOp} {r r' : R2} {d3 : D} {k l : Bool} (ho : OpR X (compareOp op) r) (ho' : OpR X (compareOp op') r') (ha : Ev X a ρ T d1) (hb : Ev X b ρ T d2) (hc : Ev X c ρ T d3) (hr : R2D X.K T r d1 d2 (.bl k)) (hr' : R2D X.K T r' d2 d3 (.bl l))
    (hm : lastMarks [op, op'] [b, c] = false := by with_unfolding_all rfl) : EvT X (.Compare a [op, op'] [b, c] pos) ρ T (k && l) :=
  PT_imp (pt_chain ho ho' ha hb hc hm) fun σ H Q ⟨Hf, Hr, w, en, q⟩ => ⟨Hf, Hr, w, en, fun x H1 Hf1 e1 w1 i1 => ⟨Hf1, Hr, w1, en.mono e1, fun y H2 Hf2 e2 w2 i2 =>
    hr x y Hf2 Hr H2 w2 (i1.mono e2) i2 _ fun z H3 Hf3 e3 w3 i3 => ⟨k, is_bl.mp i3, by
      cases k with
      | true => exact ⟨Hf3, Hr, w3, en.mono ((e1.trans e2).trans e3), fun u H4 Hf4 e4 w4 i4 => hr' y u Hf4 Hr H4 w4 (i2.mono (e3.trans e4)) i4 _ fun v H5 Hf5 e5 w5 i5 => ⟨_, is_bl.mp i5, q H5 Hf5 ((((e1.trans e2).trans e3).trans e4).trans e5) w5⟩⟩
      | false => exact ⟨false, rfl, q H3 Hf3 ((e1.trans e2).trans e3) w3⟩⟩⟩⟩

/-! ### == of data at any depth -/
mutual
def pyD : D → Option PyData
  | .non => some .none
  | .bl b => some (.bool b)
  | .int i => some (.int i)
  | .str x => some (.str x)
  | .lst ds => match pyL ds with | some xs => some (.list xs) | none => none
  | .tup ds => match pyL ds with | some xs => some (.tuple xs) | none => none
  | _ => none
def pyL : List D → Option (List PyData)
  | [] => some []
  | d :: ds => match pyD d, pyL ds with
    | some x, some xs => some (x :: xs)
    | _, _ => none
end
mutual
theorem dp_of {K : Fg} {H : Hp} : ∀ {d : D} {v : V} {x : PyData}, Is K H d v → pyD d = some x → Dp K H v x
  | .non, v, x, i, h => by simp only [pyD, Option.some.injEq] at h; subst h; rw [is_non.mp i]; exact .non
  | .bl b, v, x, i, h => by simp only [pyD, Option.some.injEq] at h; subst h; rw [is_bl.mp i]; exact .bl _
  | .int b, v, x, i, h => by simp only [pyD, Option.some.injEq] at h; subst h; rw [is_int.mp i]; exact .int _
  | .str b, v, x, i, h => by simp only [pyD, Option.some.injEq] at h; subst h; rw [is_str.mp i]; exact .str _
  | .lst ds, v, x, i, h => by
    obtain ⟨p, xs, rfl, hp, l⟩ := is_lst.mp i
    simp only [pyD] at h
    split at h
    · rename_i ys e; cases h; exact .lst (SqL.of hp) (dpl_of l e)
    · cases h
  | .tup ds, v, x, i, h => by
    obtain ⟨p, xs, rfl, hp, l⟩ := is_tup.mp i
    simp only [pyD] at h
    split at h
    · rename_i ys e; cases h; exact .tup hp (dpl_of l e)
    · cases h
  | .scr _, _, _, _, h => by simp [pyD] at h
  | .dct _ _, _, _, _, h => by simp [pyD] at h
  | .obj _ _ _, _, _, _, h => by simp [pyD] at h
  | .ptr _, _, _, _, h => by simp [pyD] at h
  | .vl _, _, _, _, h => by simp [pyD] at h
  | .tab _, _, _, _, h => by simp [pyD] at h
  | .prs _, _, _, _, h => by simp [pyD] at h
  | .lam _ _ _ _, _, _, _, h => by simp [pyD] at h
theorem dpl_of {K : Fg} {H : Hp} : ∀ {ds : List D} {vs : List V} {xs : List PyData}, IsL K H ds vs → pyL ds = some xs → DpAll K H vs xs
  | [], vs, xs, i, h => by simp only [pyL, Option.some.injEq] at h; simp only [IsL] at i; subst h i; exact .nil
  | d :: ds, vs, xs, i, h => by
    simp only [IsL] at i
    obtain ⟨v, r, rfl, i1, i2⟩ := i
    simp only [pyL] at h
    split at h
    · rename_i y ys e1 e2; cases h; exact .cons (dp_of i1 e1) (dpl_of i2 e2)
    · cases h
end
theorem r2_eqD {K : Fg} {T : Th} {x y : PyData} (h1 : pyD d1 = some x) (h2 : pyD d2 = some y) (s1 : SeqAt.shaped x = true) (s2 : SeqAt.shaped y = true) : R2D K T (rEqD K) d1 d2 (.bl (PyData.eqv x y)) := fun u v Hf Hr H w hx hy Q q =>
  ⟨x, y, dp_of (hx.mono w.f) h1, dp_of (hy.mono w.f) h2, s1, s2, q _ H Hf (Ex.refl _) w (is_bl.mpr rfl)⟩
theorem r2_neD {K : Fg} {T : Th} {x y : PyData} (h1 : pyD d1 = some x) (h2 : pyD d2 = some y) (s1 : SeqAt.shaped x = true) (s2 : SeqAt.shaped y = true) : R2D K T (rNeD K) d1 d2 (.bl (!PyData.eqv x y)) := fun u v Hf Hr H w hx hy Q q =>
  ⟨x, y, dp_of (hx.mono w.f) h1, dp_of (hy.mono w.f) h2, s1, s2, q _ H Hf (Ex.refl _) w (is_bl.mpr rfl)⟩
theorem ev_eqD {x y : PyData} (hu : X.A.units + 64 < cLine) (ha : Ev X a ρ T d1) (hb : Ev X b ρ T d2) (h1 : pyD d1 = some x) (h2 : pyD d2 = some y) (s1 : SeqAt.shaped x = true) (s2 : SeqAt.shaped y = true) : Ev X (.Compare a [.Eq] [b] pos) ρ T (.bl (PyData.eqv x y)) := ev_cmp (op_eqD hu) ha hb (r2_eqD h1 h2 s1 s2) (nomark _)
theorem ev_neD {x y : PyData} (hu : X.A.units + 64 < cLine) (ha : Ev X a ρ T d1) (hb : Ev X b ρ T d2) (h1 : pyD d1 = some x) (h2 : pyD d2 = some y) (s1 : SeqAt.shaped x = true) (s2 : SeqAt.shaped y = true) : Ev X (.Compare a [.NotEq] [b] pos) ρ T (.bl (!PyData.eqv x y)) := ev_cmp (op_neD hu) ha hb (r2_neD h1 h2 s1 s2) (nomark _)
theorem evT_eqD {x y : PyData} (hu : X.A.units + 64 < cLine) (ha : Ev X a ρ T d1) (hb : Ev X b ρ T d2) (h1 : pyD d1 = some x) (h2 : pyD d2 = some y) (s1 : SeqAt.shaped x = true) (s2 : SeqAt.shaped y = true) : EvT X (.Compare a [.Eq] [b] pos) ρ T (PyData.eqv x y) := evT_cmp (op_eqD hu) ha hb (r2_eqD h1 h2 s1 s2) (nomark _)
theorem evT_neD {x y : PyData} (hu : X.A.units + 64 < cLine) (ha : Ev X a ρ T d1) (hb : Ev X b ρ T d2) (h1 : pyD d1 = some x) (h2 : pyD d2 = some y) (s1 : SeqAt.shaped x = true) (s2 : SeqAt.shaped y = true) : EvT X (.Compare a [.NotEq] [b] pos) ρ T (!PyData.eqv x y) := evT_cmp (op_neD hu) ha hb (r2_neD h1 h2 s1 s2) (nomark _)
/-- lists of ints -/
theorem pyL_ints : ∀ ns : List Int, pyL (ns.map .int) = some (ns.map .int)
  | [] => rfl
  | n :: ns => by simp only [List.map_cons, pyL, pyD, pyL_ints ns]
theorem pyD_ints (ns : List Int) : pyD (.lst (ns.map .int)) = some (.list (ns.map .int)) := by simp only [pyD, pyL_ints ns]
end
end PU
set_option Elab.async false
set_option linter.all false
set_option maxRecDepth 100000
/-! P11: methods of texts, pow, d.update, dict comprehension, a dict of pairs. -/
namespace PU
open PySem PySem.Spec PyProof.Rows L2
section
variable {X : Cx} {a b c e o f : Expr} {es : List Expr} {ρ : Rho} {T : Th} {pos p p2 q2 apos : Pos} {d d1 d2 : D} {ds : List D} {x : Str}
theorem shaped_ints : ∀ ns : List Int, SeqAt.shaped (.list (ns.map .int)) = true := fun ns => by
  have h1 : ∀ ns : List Int, PyData.canLayAll0 (ns.map .int) = true := fun ns => by
    induction ns with
    | nil => rfl
    | cons n ns ih => rw [List.map_cons]; simp only [PyData.canLayAll0, PyData.canLay0, ih, Bool.and_self]
  have h2 : ∀ ns : List Int, PyData.depthAll (ns.map .int) = 0 := fun ns => by
    induction ns with
    | nil => rfl
    | cons n ns ih => rw [List.map_cons]; simp only [PyData.depthAll, PyData.depth, ih, Nat.max_self]
  unfold SeqAt.shaped
  simp only [PyData.canLay0, h1, PyData.depth, h2, Bool.true_and, decide_eq_true_eq]
  decide
theorem eqv_nil (xs : List PyData) : PyData.eqv (.list xs) (.list []) = xs.isEmpty := by
  cases xs <;> simp [PyData.eqv, PyData.eqvAll]
/-- ints == [], != [] -/
theorem ev_eqNil {ns : List Int} (hu : X.A.units + 64 < cLine) (ha : Ev X a ρ T (.lst (ns.map .int))) (hb : Ev X b ρ T (.lst [])) : Ev X (.Compare a [.Eq] [b] pos) ρ T (.bl ns.isEmpty) :=
  ev_is (ev_eqD hu ha hb (pyD_ints ns) (pyD_ints []) (shaped_ints ns) (shaped_ints [])) (by rw [List.map_nil, eqv_nil, List.isEmpty_map])
theorem evT_eqNil {ns : List Int} (hu : X.A.units + 64 < cLine) (ha : Ev X a ρ T (.lst (ns.map .int))) (hb : Ev X b ρ T (.lst [])) : EvT X (.Compare a [.Eq] [b] pos) ρ T ns.isEmpty :=
  evT_is (evT_eqD hu ha hb (pyD_ints ns) (pyD_ints []) (shaped_ints ns) (shaped_ints [])) (by rw [List.map_nil, eqv_nil, List.isEmpty_map])
theorem evT_neNil {ns : List Int} (hu : X.A.units + 64 < cLine) (ha : Ev X a ρ T (.lst (ns.map .int))) (hb : Ev X b ρ T (.lst [])) : EvT X (.Compare a [.NotEq] [b] pos) ρ T (!ns.isEmpty) :=
  evT_is (evT_neD hu ha hb (pyD_ints ns) (pyD_ints []) (shaped_ints ns) (shaped_ints [])) (by rw [List.map_nil, eqv_nil, List.isEmpty_map])
/-- [] == [] -/
theorem ev_eq00 (hu : X.A.units + 64 < cLine) (ha : Ev X a ρ T (.lst [])) (hb : Ev X b ρ T (.lst [])) : Ev X (.Compare a [.Eq] [b] pos) ρ T (.bl true) := ev_eqNil (ns := []) hu ha hb
theorem evT_ne00 (hu : X.A.units + 64 < cLine) (ha : Ev X a ρ T (.lst [])) (hb : Ev X b ρ T (.lst [])) : EvT X (.Compare a [.NotEq] [b] pos) ρ T false := evT_neNil (ns := []) hu ha hb

/-! ### methods of texts -/
theorem ev_bmS {id m : String} {name : Str} {u v z : Str} {f : Str → Str → Str} (slot : Slot "str" name id) (hty : typeOf (.builtin id) = pure (.type "method_descriptor"))
    (hm : MtR X id (fun x xs H Q => ∃ a b, x = .str a ∧ xs = [.str b] ∧ a.length ≤ sizeLine ∧ Q (.str (f a b)) H)) (ho : Ev X o ρ T (.str u)) (ha : Ev X e ρ T (.str v)) (hz : f u v = z) (hu : u.length ≤ 1000)
    (hbase : attributeBase o name X.env (eval o X.env) = eval o X.env := by rfl)
    (hfew : ((backTo pos (starEach [e] X.env)).all (fun x => !x.1) && (backToKw pos (keywordEach [] X.env)).all (fun x => x.1.isSome)
      && decide ([e].length + ([] : List Keyword).length + (if ([] : List Keyword).isEmpty then 0 else 1) < 30)) = true := by rfl)
    (hline : (apos.endLine == pos.line) = true := by rfl) (hs : starEach [e] X.env = (false, eval e X.env) :: starEach [] X.env := by rfl) : Ev X (.Call (.Attribute o name apos) [e] [] pos) ρ T (.str z) :=
  PE_imp (pe_bm PySem.F.plainAttrs_str slot hty hm ho (eva_cons ha eva_nil hs) hbase hfew hline hs rfl) fun σ H Q ⟨Hf, Hr, w, en, q⟩ => ⟨Hf, Hr, w, en, fun v1 H1 Hf1 e1 w1 i1 => by
    rw [is_str.mp i1]
    refine ⟨rfl, Hf1, Hr, w1, en.mono e1, fun vs H2 Hf2 e2 w2 i2 => ?_⟩
    obtain ⟨y, rfl, k⟩ := isL1 i2
    rw [is_str.mp k]
    refine ⟨u, v, rfl, rfl, Nat.le_trans hu (by decide), ?_⟩
    rw [hz]
    exact q _ H2 Hf2 (e1.trans e2) w2 (is_str.mpr rfl)⟩
theorem ev_rstrip {u v z : Str} (ho : Ev X o ρ T (.str u)) (ha : Ev X e ρ T (.str v)) (hz : Txt.rstripChars u v = z) (hu : u.length ≤ 1000)
    (hbase : attributeBase o "rstrip" X.env (eval o X.env) = eval o X.env := by rfl)
    (hfew : ((backTo pos (starEach [e] X.env)).all (fun x => !x.1) && (backToKw pos (keywordEach [] X.env)).all (fun x => x.1.isSome)
      && decide ([e].length + ([] : List Keyword).length + (if ([] : List Keyword).isEmpty then 0 else 1) < 30)) = true := by rfl)
    (hline : (apos.endLine == pos.line) = true := by rfl) (hs : starEach [e] X.env = (false, eval e X.env) :: starEach [] X.env := by rfl) : Ev X (.Call (.Attribute o "rstrip" apos) [e] [] pos) ρ T (.str z) :=
  ev_bmS (m := "") PySem.F.slot_str_rstrip PySem.F.type_str_rstrip mt_rstripChars ho ha hz hu hbase hfew hline hs
theorem ev_strip {u v z : Str} (ho : Ev X o ρ T (.str u)) (ha : Ev X e ρ T (.str v)) (hz : Txt.stripChars u v = z) (hu : u.length ≤ 1000)
    (hbase : attributeBase o "strip" X.env (eval o X.env) = eval o X.env := by rfl)
    (hfew : ((backTo pos (starEach [e] X.env)).all (fun x => !x.1) && (backToKw pos (keywordEach [] X.env)).all (fun x => x.1.isSome)
      && decide ([e].length + ([] : List Keyword).length + (if ([] : List Keyword).isEmpty then 0 else 1) < 30)) = true := by rfl)
    (hline : (apos.endLine == pos.line) = true := by rfl) (hs : starEach [e] X.env = (false, eval e X.env) :: starEach [] X.env := by rfl) : Ev X (.Call (.Attribute o "strip" apos) [e] [] pos) ρ T (.str z) :=
  ev_bmS (m := "") PySem.F.slot_str_strip PySem.F.type_str_strip mt_stripChars ho ha hz hu hbase hfew hline hs

/-! ### pow of what fits -/
def CPowX (i j : Int) : Prop := 0 ≤ j ∧ (Builtin.Int.intBits i : Int) * j ≤ 134217728
theorem op_powX : OpR X (binaryOp .Pow) (rI CPowX fun i j => .int (i ^ j.toNat)) := opI fun _ _ _ _ _ _ _ hc q => pow_int hc.1 hc.2 q
theorem ev_pow {i j : Int} (ha : Ev X a ρ T (.int i)) (hb : Ev X b ρ T (.int j)) (hc : CPowX i j) : Ev X (.BinOp a .Pow b pos) ρ T (.int (i ^ j.toNat)) := ev_op op_powX ha hb (r2_I hc fun _ => is_int.mpr rfl)

/-! ### d.update(dict) -/
theorem mt_dupd : MtR X "dict.update" (fun x xs H Q => ∃ (d o : Addr) (ks ls : List (Key × V)), x = .ref d ∧ xs = [.ref o] ∧ H d = some (.dK ks) ∧ H o = some (.dK ls) ∧ d ≠ o ∧ ks.length + ls.length ≤ sizeLine ∧ Q .non (upd H d (.dK (mergeK ks ls)))) := by
  intro pins s σ H x xs v us Q I rx rs h
  obtain ⟨d, o, ks, ls, rfl, rfl, hd, ho, hne, hl, q⟩ := h
  cases rx
  obtain ⟨u, rfl, ru⟩ := vals1 rs
  cases ru
  obtain ⟨z1, n1, vs1, r1, t1⟩ := dk_of I.hok hd
  obtain ⟨z2, n2, vs2, r2, t2⟩ := dk_of I.hok ho
  refine call_meetsIn PySem.F.slot_dict_update t1.typeIs PySem.F.entry_dict_update (PySem.F.args_dict_update_2 _ _) (meets_dict_update (mixKind X.prog X.w) d o hne n2) ⟨vs1, vs2, t1, t2, by rw [← r1.length, ← r2.length]; exact hl, fun h' hm _ hs => ?_⟩
  have hz : (mergeK ks ls).length ≤ sizeLine := by
    have := length_mergeK ls ks
    omega
  refine ⟨.non, _, d_write I (by rw [hd]; exact True.intro) hs (let ⟨y, _, _, hy, _⟩ := hm; ⟨y, hy⟩) (dk_new hz n1 (KV.merge r2 r1) hm), rfl, q⟩
def mergeA {α κ : Type} [DecidableEq κ] (kvs more : List (κ × α)) : List (κ × α) := more.foldl (fun acc kv => putA acc kv.1 kv.2) kvs
theorem putA_len {α κ : Type} [DecidableEq κ] (kvs : List (κ × α)) (k : κ) (v : α) : (putA kvs k v).length ≤ kvs.length + 1 := by
  unfold putA
  split <;> simp
theorem putK_len' (kvs : List (Key × V)) (k : Key) (v : V) : (putK kvs k v).length ≤ kvs.length + 1 := length_putK kvs k v
theorem merge_is {K : Fg} {Hf : Hp} : ∀ (ls : List (Key × D)) (ys : List V) (kvs : List (Key × D)) (xs : List V), IsL K Hf (kvs.map (·.2)) xs → kvs.length = xs.length → IsL K Hf (ls.map (·.2)) ys → ls.length = ys.length →
    ∃ xs', mergeK ((kvs.map (·.1)).zip xs) ((ls.map (·.1)).zip ys) = ((mergeA kvs ls).map (·.1)).zip xs' ∧ ((mergeA kvs ls).map (·.1)).length = xs'.length ∧ IsL K Hf ((mergeA kvs ls).map (·.2)) xs'
  | [], ys, kvs, xs, h, hl, k, kl => by
    simp only [List.map_nil, IsL] at k
    subst k
    exact ⟨xs, rfl, by simpa [mergeA] using hl, h⟩
  | (a, d) :: ls, ys, kvs, xs, h, hl, k, kl => by
    simp only [List.map_cons, IsL] at k
    obtain ⟨y, r, rfl, i1, i2⟩ := k
    obtain ⟨xs1, e1, l1, h1⟩ := put_is kvs xs a h i1
    obtain ⟨xs2, e2, l2, h2⟩ := merge_is ls r (putA kvs a d) xs1 h1 (by simpa using l1) i2 (by simpa using kl)
    refine ⟨xs2, ?_, l2, h2⟩
    show mergeK ((kvs.map (·.1)).zip xs) ((a, y) :: (ls.map (·.1)).zip r) = _
    rw [← e1] at e2
    exact e2
theorem ru_upd {kvs ls : List (Key × D)} {pd : Addr} {cpos : Pos} {R : Rs} (ho : Ev X o ρ T (.ptr pd)) (hp : T pd = some (.dk kvs)) (hv : Ev X e ρ T (.dk ls)) (hl : kvs.length + ls.length ≤ 1000000) (hn : R.nx ρ (tset T pd (.dk (mergeA kvs ls))))
    (hs : swapsWith (.Call (.Attribute o "update" apos) [e] [] cpos) none pos.line X.env = pure false := by rfl)
    (hbase : attributeBase o "update" X.env (eval o X.env) = eval o X.env := by rfl)
    (hfew : ((backTo cpos (starEach [e] X.env)).all (fun x => !x.1) && (backToKw cpos (keywordEach [] X.env)).all (fun x => x.1.isSome)
      && decide ([e].length + ([] : List Keyword).length + (if ([] : List Keyword).isEmpty then 0 else 1) < 30)) = true := by rfl)
    (hline : (apos.endLine == cpos.line) = true := by rfl) (hst : starEach [e] X.env = (false, eval e X.env) :: starEach [] X.env := by rfl) : RuS X (.Expr (.Call (.Attribute o "update" apos) [e] [] cpos) pos) ρ T R :=
  PS_imp (ps_expr (pe_bm PySem.F.plainAttrs_dict PySem.F.slot_dict_update PySem.F.type_dict_update mt_dupd ho (eva_cons hv eva_nil hst) hbase hfew hline hst rfl) hs) fun D σ H ⟨Hf, Hr, w, en, q⟩ => ⟨Hf, Hr, w, en, fun v1 H1 Hf1 e1 w1 i1 => by
    cases is_ptr.mp i1
    have o1 := w1.to _ _ hp
    simp only [Own] at o1
    obtain ⟨xs1, g1, _, _⟩ := o1
    refine ⟨.inr (.inr (.inl ⟨rfl, .inl ⟨_, g1⟩⟩)), Hf1, Hr, w1, en.mono e1, fun vs H2 Hf2 e2 w2 i2 => ?_⟩
    obtain ⟨y, rfl, k⟩ := isL1 i2
    obtain ⟨po, ys, rfl, g2, l2, s2⟩ := is_dct.mp k
    have o2 := w2.to _ _ hp
    simp only [Own] at o2
    obtain ⟨xs2, g3, l3, s3⟩ := o2
    have hne : pd ≠ po := fun z => by
      subst z
      rw [(w2.tf _ _ hp).1] at g2; cases g2
    obtain ⟨xs', e', l', s'⟩ := merge_is ls ys kvs xs2 s3 (by simpa using l3) s2 (by simpa using l2)
    refine ⟨pd, po, _, _, rfl, rfl, g3, w2.f _ _ g2, hne, ?_, ?_⟩
    · rw [List.length_zip, List.length_zip, List.length_map, List.length_map]
      have : sizeLine ≥ 1000000 := by decide
      omega
    · refine q.1 ρ _ σ _ Hf2 hn (e1.trans e2) (w2.turn hp (fun _ _ _ z => nomatch z) (fun _ _ _ z => nomatch z) ?_) (en.mono (e1.trans e2))
      rw [e']
      exact ⟨xs', upd_same, l', s'⟩⟩

/-! ### dict of pairs -/
theorem paired_of {K : Fg} {Hf H : Hp} (ef : Ex Hf H) : ∀ {kvs : List (Key × D)} {vs : List V}, IsL K Hf (kvs.map fun kv => .tup [keyD kv.1, kv.2]) vs →
    ∃ (ps : List Addr) (ys : List V), vs = ps.map V.ref ∧ kvs.length = ys.length ∧ IsL K Hf (kvs.map (·.2)) ys ∧ Paired (fun p kv => SqT K H p [kV kv.1, kv.2]) ps ((kvs.map (·.1)).zip ys)
  | [], vs, h => by
    simp only [List.map_nil, IsL] at h
    subst h
    exact ⟨[], [], rfl, rfl, .nil, .nil⟩
  | (k, d) :: kvs, vs, h => by
    simp only [List.map_cons, IsL] at h
    obtain ⟨v, r, rfl, i, l⟩ := h
    obtain ⟨p, xs, rfl, hp, i2⟩ := is_tup.mp i
    obtain ⟨x, y, rfl, i3, i4⟩ := isL2 i2
    obtain ⟨ps, ys, rfl, hl, l2, pr⟩ := paired_of ef l
    rw [keyD_is i3] at hp
    exact ⟨p :: ps, y :: ys, rfl, by simpa using hl, by rw [List.map_cons]; exact .cons i4 l2, .cons (ex_t ef hp) pr⟩
theorem ev_dictP {kvs : List (Key × D)} (hm : X.mg "dict" = none) (hcm : X.calm = true) (ha : Ev X a ρ T (.lst (kvs.map fun kv => .tup [keyD kv.1, kv.2]))) (hg : Gl X "dict" := by rfl) (he : starEach [a] X.env = (false, eval a X.env) :: starEach [] X.env := by rfl) : Ev X (.Call (.Name "dict" p) [a] [] pos) ρ T (.dk (mergeA [] kvs)) :=
  ev_ct (call_dictP hcm) hm (by decide +kernel) (eva_cons ha eva_nil he) (fun vs Hf Hr H w il Q q => by
    obtain ⟨x, rfl, k⟩ := isL1 il
    obtain ⟨pl, xs, rfl, hp, l⟩ := is_lst.mp k
    obtain ⟨ps, ys, rfl, hl, l2, pr⟩ := paired_of w.f l
    refine ⟨pl, ps, _, rfl, SqL.of (w.f _ _ hp), pr, fun pd hd => ?_⟩
    obtain ⟨xs', e', l', s'⟩ := merge_is kvs ys [] [] .nil rfl l2 hl
    have e2 : mergeK [] ((kvs.map (·.1)).zip ys) = ((mergeA [] kvs).map (·.1)).zip xs' := e'
    rw [e2]
    exact q _ _ _ (Ex.new (w.f.back hd)) (w.new hd) (new_dct (w.f.back hd) l' s')) hg (by decide) (by decide) he rfl
end
end PU
set_option Elab.async false
set_option linter.all false
set_option maxRecDepth 100000
set_option maxHeartbeats 4000000
/-! P12: zip(a, b, strict=True) of two lists of one length, as what a loop goes over. -/
namespace PU
open PySem PySem.Spec PyProof.Rows L2
abbrev ZpS (h : Heap) (z ti tq : Addr) (f0 : Value) : Prop :=
  h.get? z = some { cls := .type "zip", dict := none, data := .fields #[f0, .bool false, .bool true, .ref ti, .ref tq], slots := #[] }
section
variable {P : Program} {wd : World} {A : Around} {E : Value → Shared → Prop} {s : Shared}
/-- a type called with keywords, its class's own __init__ -/
theorem tyKw_run {N newId : String} {Bn : Builtin} {us : List Value} {kw : List (Str × Value)} {S : PySem.Spec} {Q : Value → Shared → Prop} (ft : TypeCalled N newId "object.__init__") (hne : (some newId != some "object.__new__") = true)
    (c1 : checkTypeCall N ⟨us, kw⟩ = pure ()) (c2 : checkBuiltinCall newId ⟨.type N :: us, kw⟩ = pure ()) (c3 : ∀ ob, argsOk "object.__init__" ⟨ob :: us, kw⟩) (en : entryFor table newId = some Bn) (g : Meets (Bn ⟨.type N :: us, kw⟩) S)
    (gi : ∀ ob, Meets (Builtin.«object.__init__» ⟨ob :: us, kw⟩) (fun _ R t => t.TypeIs ob N ∧ R (.ok (.ret .none)) t))
    (k : S A.in1 (wants (fun ob t => t.TypeIs ob N ∧ Q ob t) E) s) : wpAny (model P wd) A (call (.type N) us kw) Q E s := by
  obtain ⟨c, tl, em⟩ := ft.mro
  have ema := ft.made
  have esu := ft.sub
  refine wpAny_call (codeAny_of_tree ?_)
  show wpAny _ _ (callAny (.type N) _) _ _ _
  refine wpAny_pure ⟨Code.quiet_builtin _ (by decide +kernel), codeAny_builtin F.entry_type_call ?_⟩
  rw [Around.under_plain (weight_type_call_type N us kw) (units_type_call_type N us kw)]
  have e1 := ft.notType
  have e2 := ft.canCreate
  repeat (any_goals (first | assumption | wp_step))
  refine codeAny_mono (codeAny_call_builtin ft.plain en (wpAny_of_eq c2 (g P wd A.in1 _ s k))) fun r t hr => ?_
  match r, hr with
  | .ok (.ret ob), hr =>
    obtain ⟨hT, hq⟩ := hr
    have eli := ft.init.lookup
    have ebi := ft.init.bind ob
    repeat (any_goals (first | assumption | wp_step))
    refine codeAny_mono (codeAny_call_builtin ft.init.plain F.entry_object_init (ft.init.check _ _ _ _ _ _ _ _ hT (c3 ob) (gi ob P wd A.in1 (wants (fun r' t' => r' = .none ∧ Q ob t') E) t ⟨hT, rfl, hq⟩))) fun r2 t2 hr2 => ?_
    match r2, hr2 with
    | .ok (.ret y), hr2 =>
      obtain ⟨rfl, hq2⟩ := hr2
      repeat (any_goals (first | assumption | wp_step))
    | .ok .next, hr2 => exact hr2.elim
    | .ok .brk, hr2 => exact hr2.elim
    | .ok .cont, hr2 => exact hr2.elim
    | .error e, hr2 => exact hr2
  | .ok .next, hr => exact hr.elim
  | .ok .brk, hr => exact hr.elim
  | .ok .cont, hr => exact hr.elim
  | .error e, hr => exact hr
abbrev skw : List (Str × Value) := [(Str.ofString "strict", .bool true)]
theorem zs_check (a b : Value) : checkTypeCall "zip" ⟨[a, b], skw⟩ = pure () := by kernel_rfl
theorem zs_new (a b : Value) : checkBuiltinCall "zip.__new__" ⟨[.type "zip", a, b], skw⟩ = pure () := by kernel_rfl
theorem zs_init (a b c : Value) : argsOk "object.__init__" ⟨[a, b, c], skw⟩ := by
  unfold argsOk; rw [signature?_of (id := "object.__init__") (n := ['_', '_', 't', 'i', 'n', 'i', '_', '_']) (o := ['t', 'c', 'e', 'j', 'b', 'o']) (by kernel_rfl) F.owner_object]; kernel_rfl
theorem zs_obj (ob a b : Value) : Meets (Builtin.«object.__init__» ⟨[ob, a, b], skw⟩) (fun _ R t => t.TypeIs ob "zip" ∧ R (.ok (.ret .none)) t) := by
  have e1 := F.called_zip.init.lookup
  have e2 := F.called_zip.made
  have e3 : (some "zip.__new__" != some "object.__new__") = true := by decide
  refine Meets.of_wp fun P' w' A' R t ht => ?_
  obtain ⟨hT, hq⟩ := ht
  repeat (any_goals (first | assumption | wp_step))
  exact ⟨_, rfl, hq⟩
abbrev zs1 (h : Heap) (a : Addr) : Heap := h.push { cls := .type "list_iterator", data := .fields #[.ref a, .int 0 0] }
abbrev zs2 (h : Heap) (a b : Addr) : Heap := (zs1 h a).push { cls := .type "list_iterator", data := .fields #[.ref b, .int 0 0] }
abbrev zs3 (h : Heap) (a b : Addr) : Heap := (zs2 h a b).push { cls := .type "tuple", data := .seq #[.ref h.objs.size, .ref (zs1 h a).objs.size] }
abbrev zs4 (h : Heap) (a b : Addr) : Heap := (zs3 h a b).push { cls := .type "tuple", data := .seq #[.none, .none] }
abbrev zs5 (h : Heap) (a b : Addr) : Heap := (zs4 h a b).push { cls := .type "zip", data := .fields #[.none, .bool false, .bool true, .ref (zs2 h a b).objs.size, .ref (zs3 h a b).objs.size] }
theorem zs_meets (a b : Addr) (xs ys : Array Value) : Meets (Builtin.«zip.__new__» ⟨[.type "zip", .ref a, .ref b], skw⟩) (fun _ R t => t.heap.IsList a xs ∧ t.heap.IsList b ys ∧ R (.ok (.ret (.ref (zs4 t.heap a b).objs.size))) { t with heap := zs5 t.heap a b }) :=
  .of_wp fun P' w' A' R t hh => by
    obtain ⟨hp, g, d, tk, os⟩ := t
    obtain ⟨k1, k2, k⟩ := hh
    have esub := sub_zip
    have l1 : Heap.IsList (Shared.heap ⟨hp, g, d, tk, os⟩) a xs := k1
    have l2 : Heap.IsList (Shared.heap ⟨hp.push { cls := .type "list_iterator", data := .fields #[.ref a, .int 0 0] }, g, d, tk, os⟩) b ys := Heap.IsList.push k2 _
    wp_walk using wpAny_pyIter_list l1, wpAny_pyIter_list l2
    exact ⟨_, rfl, k⟩

/-- the ends of both are asked -/
theorem noe_item {it l : Addr} {i : Nat} {xs : Array Value} {x : Value} {Q : Option Value → Shared → Prop} (hit : s.heap.IsListIter it l i) (hl : s.heap.IsList l xs) (hx : xs[i]? = some x)
    (k : ∀ h', h'.IsListIter it l (i + 1) → Heap.SameBut it s.heap h' → Q (some x) { s with heap := h' }) : wpAny (model P wd) A (Builtin.SmallTypes.nextOrEnd (.ref it)) Q E s := by
  unfold Builtin.SmallTypes.nextOrEnd
  exact wpAny_bind (wpAny_attempt (wpAny_nextOf_list_item hit hl hx fun h' a b => wpAny_pure (k h' a b)))
theorem noe_end {it l : Addr} {i : Nat} {xs : Array Value} {Q : Option Value → Shared → Prop} (hh : A.handled = none) (hit : s.heap.IsListIter it l i) (hl : s.heap.IsList l xs) (hx : xs[i]? = none)
    (k : ∀ h', Heap.ExtBut it s.heap h' → Q none { s with heap := h' }) : wpAny (model P wd) A (Builtin.SmallTypes.nextOrEnd (.ref it)) Q E s := by
  unfold Builtin.SmallTypes.nextOrEnd
  refine wpAny_bind (wpAny_attempt (wpAny_nextOf_list_end hh hit hl hx fun h' e a ⟨o, b, c⟩ => ?_))
  refine wpAny_bind (wpAny_isInstance (T := "StopIteration") (b := true) ⟨o, b, c⟩ isSubtype_stop ?_)
  exact wpAny_pure (k h' a)
end
end PU
set_option Elab.async false
set_option linter.all false
set_option maxRecDepth 100000
set_option maxHeartbeats 4000000
/-! P13: a strict zip is drawn from. -/
namespace PU
open PySem PySem.Spec PyProof.Rows L2
section
variable {P : Program} {wd : World} {A : Around} {E : Value → Shared → Prop} {s : Shared}
/-- what a strict zip at z is made of: its two list iterators, its own pair -/
structure ZSt (h : Heap) (z ti tq p1 p2 q1 q2 : Addr) (i : Nat) : Prop where
  z : ZpS h z ti tq .none
  t : IsPair h ti (.ref p1) (.ref p2)
  q : ∃ a b, IsPair h tq a b
  x : h.IsListIter p1 q1 i
  y : h.IsListIter p2 q2 i
theorem zs_set {tq : Addr} {a b x : Value} {k : Nat} {Q : Unit → Shared → Prop} (gO : IsPair s.heap tq a b) (kk : ∀ h', h'.get? tq = some { cls := .type "tuple", data := .seq ((#[a, b] : Array Value).setIfInBounds k x) } → Heap.SameBut tq s.heap h' → Q () { s with heap := h' }) : wpAny (model P wd) A (updateSeq tq (·.setIfInBounds k x)) Q E s :=
  wpAny_updateSeq gO rfl (kk _ (by rw [Heap.get?_update_self _ gO rfl]; simp [Obj.mapSeq]) (Heap.SameBut.update ..))
theorem zs_item {z ti tq p1 p2 q1 q2 : Addr} {i : Nat} {xs ys : Array Value} {x y : Value} {Q : Value → Shared → Prop} (Z : ZipApart z ti tq p1 p2 q1 q2) (g : ZSt s.heap z ti tq p1 p2 q1 q2 i) (m1 : s.heap.IsList q1 xs) (m2 : s.heap.IsList q2 ys) (n1 : xs[i]? = some x) (n2 : ys[i]? = some y)
    (kk : ∀ h', ZpS h' z ti tq (rawInt s.heap.objs.size) → IsPair h' tq x y → h'.IsListIter p1 q1 (i + 1) → h'.IsListIter p2 q2 (i + 1) → IsPair h' s.heap.objs.size x y → (∀ c o, c ∉ [z, tq, p1, p2] → s.heap.get? c = some o → h'.get? c = some o) → Q (.ref s.heap.objs.size) { s with heap := h' }) :
    wpAny (model P wd) A (Builtin.«zip.__next__» ⟨[.ref z], []⟩) (fun fin s' => ∃ v, fin = .done (.ret v) ∧ Q v s') E s := by
  obtain ⟨gz, gI, ⟨a, b, gO⟩, j1, j2⟩ := g
  -- the fields: not handed out, strict, the iterators
  refine show wpAny _ _ (field (.ref z) 2 >>= _) _ _ _ from wpAny_bind (wpAny_field gz rfl (x := .bool true) rfl (?_ : wpAny _ _ (field (.ref z) 3 >>= _) _ _ _))
  refine wpAny_bind (wpAny_field gz rfl (x := .ref ti) rfl (wpAny_bind (wpAny_seqItems gI rfl (?_ : wpAny _ _ (Builtin.SmallTypes.ownedTupleIsFree (.ref z) >>= _) _ _ _))))
  refine wpAny_bind ?_; unfold Builtin.SmallTypes.ownedTupleIsFree; refine wpAny_bind (wpAny_field gz rfl (x := .none) rfl (wpAny_pure ?_))
  simp only [if_true]; refine wpAny_bind (wpAny_rule (wpAny_bind (wpAny_field gz rfl (x := .ref tq) rfl (wpAny_bind (wpAny_setField_rec gz (by simp) fun ha gza sa => wpAny_bind ?_)))))
  replace gza : ZpS ha z ti tq .ellipsis := gza
  simp only [List.zipIdx_cons, List.zipIdx_nil, List.forIn_cons, List.forIn_nil]; refine wpAny_bind (wpAny_bind (wpAny_onRaise ?_))
  -- the first
  refine show wpAny _ _ (Builtin.SmallTypes.nextOrEnd (.ref p1)) _ _ _ from noe_item (j1.extBut sa.extBut Z.i1z) (m1.extBut sa.extBut Z.l1z) n1 fun hb jb sb => ?_
  have gOb : IsPair hb tq a b := sb.extBut _ _ Z.TOi1 (sa.extBut _ _ Z.TOz gO)
  refine wpAny_bind (wpAny_seqItems gOb rfl (wpAny_bind (zs_set gOb fun hc gOc sc => wpAny_bind (wpAny_letGo (wpAny_pure ?_)))))
  replace gOc : IsPair hc tq x b := gOc
  refine wpAny_bind (wpAny_bind (wpAny_onRaise (show wpAny _ _ (Builtin.SmallTypes.nextOrEnd (.ref p2)) _ _ _ from noe_item (((j2.extBut sa.extBut Z.i2z).extBut sb.extBut Z.i12.symm).extBut sc.extBut Z.TOi2.symm) (((m2.extBut sa.extBut Z.l2z).extBut sb.extBut Z.l2i1).extBut sc.extBut Z.l2TO) n2 fun hd jd sd => ?_)))
  -- the second
  have gOd : IsPair hd tq x b := sd.extBut _ _ Z.TOi2 gOc
  refine wpAny_bind (wpAny_seqItems gOd rfl (wpAny_bind (zs_set gOd fun he gOe se => wpAny_bind (wpAny_letGo (wpAny_pure (wpAny_pure ?_))))))
  replace gOe : IsPair he tq x y := gOe
  refine wpAny_bind (wpAny_seqItems gOe rfl (wpAny_bind (wpAny_newTuple (?_ : wpAny _ _ (Builtin.SmallTypes.ownedTupleHandOut (.ref z) (.ref he.objs.size) >>= _) _ _ _))))
  have size : he.objs.size = s.heap.objs.size := by rw [se.1, sd.1, sc.1, sb.1, sa.1]
  have gze : ZpS he z ti tq .ellipsis := se.extBut _ _ Z.TOz.symm (sd.extBut _ _ Z.i2z.symm (sc.extBut _ _ Z.TOz.symm (sb.extBut _ _ Z.i1z.symm gza)))
  have keep : ∀ c o, c ∉ [z, tq, p1, p2] → s.heap.get? c = some o → he.get? c = some o := fun c o hcm e => by
    have k : c ≠ z ∧ c ≠ tq ∧ c ≠ p1 ∧ c ≠ p2 := by simpa using hcm
    exact se.extBut _ _ k.2.1 (sd.extBut _ _ k.2.2.2 (sc.extBut _ _ k.2.1 (sb.extBut _ _ k.2.2.1 (sa.extBut _ _ k.1 e))))
  have je : he.IsListIter p1 q1 (i + 1) := ((jb.extBut sc.extBut Z.TOi1.symm).extBut sd.extBut Z.i12).extBut se.extBut Z.TOi1.symm
  have ke : he.IsListIter p2 q2 (i + 1) := jd.extBut se.extBut Z.TOi2.symm
  have zl : z < he.objs.size := Heap.lt_size gze
  refine wpAny_bind ?_; unfold Builtin.SmallTypes.ownedTupleHandOut; refine wpAny_bind (wpAny_setField_rec (show ZpS (he.push { cls := .type "tuple", data := .seq #[x, y] }) z ti tq .ellipsis from Heap.get?_push_of_some _ gze) (by simp) fun hf gzf sf => wpAny_setField_rec (show ZpS hf z ti tq (rawInt he.objs.size) from gzf) (by simp) fun hg gzg sg => wpAny_pure ?_)
  replace gzg : ZpS hg z ti tq (rawInt he.objs.size) := gzg
  have lift : ∀ c o, c ≠ z → he.get? c = some o → hg.get? c = some o := fun c o c1 e => sg.extBut _ _ c1 (sf.extBut _ _ c1 (Heap.get?_push_of_some _ e))
  have gT : IsPair hg he.objs.size x y := sg.extBut _ _ (Nat.ne_of_gt zl) (sf.extBut _ _ (Nat.ne_of_gt zl) (Heap.get?_push_size _ rfl))
  rw [size] at gzg gT
  refine ⟨_, rfl, ?_⟩
  rw [size]
  refine kk hg gzg (lift _ _ Z.TOz gOe) (je.at fun o e => lift _ o Z.i1z e) (ke.at fun o e => lift _ o Z.i2z e) gT fun c o hcm e => lift c o (fun q => hcm (by simp [q])) (keep c o hcm e)

theorem zs_stop {α : Type} {Q : α → Shared → Prop} (hh : A.handled = none) (kk : ∀ h' e, (∀ b o, s.heap.get? b = some o → h'.get? b = some o) → (∃ o, h'.get? e = some o ∧ o.cls = .type "StopIteration") → E (.ref e) { s with heap := h' }) :
    wpAny (model P wd) A (Builtin.SmallTypes.stopIteration : Sem α) Q E s := by
  refine show wpAny _ _ (newExc (.type "StopIteration") [] >>= _) _ _ _ from wpAny_bind ?_
  simp only [newExc, newTuple]
  refine wpAny_bind (wpAny_newObj_type (wpAny_bind (m := firstArgMember _ _) (wpAny_of_eq (a := Value.none) (by first | rfl | (simp only [firstArgMember]; rfl)) (wpAny_newObj_type (wpAny_raiseNew_none hh ?_) (by size_fits)))) (by size_fits))
  exact kk _ _ (fun b o x => Heap.get?_push_of_some _ (Heap.get?_push_of_some _ x)) ⟨_, Heap.get?_push_size _ rfl, rfl⟩
theorem zs_end {z ti tq p1 p2 q1 q2 : Addr} {i : Nat} {xs ys : Array Value} {Q : PySem.Fin → Shared → Prop} (hh : A.handled = none) (Z : ZipApart z ti tq p1 p2 q1 q2) (g : ZSt s.heap z ti tq p1 p2 q1 q2 i) (m1 : s.heap.IsList q1 xs) (m2 : s.heap.IsList q2 ys) (n1 : xs[i]? = none) (n2 : ys[i]? = none)
    (kk : ∀ h' e, (∀ c o, c ∉ [z, tq, p1, p2] → s.heap.get? c = some o → h'.get? c = some o) → (∃ o, h'.get? e = some o ∧ o.cls = .type "StopIteration") → E (.ref e) { s with heap := h' }) :
    wpAny (model P wd) A (Builtin.«zip.__next__» ⟨[.ref z], []⟩) Q E s := by
  obtain ⟨gz, gI, ⟨a, b, gO⟩, j1, j2⟩ := g
  refine show wpAny _ _ (field (.ref z) 2 >>= _) _ _ _ from wpAny_bind (wpAny_field gz rfl (x := .bool true) rfl (?_ : wpAny _ _ (field (.ref z) 3 >>= _) _ _ _))
  refine wpAny_bind (wpAny_field gz rfl (x := .ref ti) rfl (wpAny_bind (wpAny_seqItems gI rfl (?_ : wpAny _ _ (Builtin.SmallTypes.ownedTupleIsFree (.ref z) >>= _) _ _ _))))
  refine wpAny_bind ?_; unfold Builtin.SmallTypes.ownedTupleIsFree; refine wpAny_bind (wpAny_field gz rfl (x := .none) rfl (wpAny_pure ?_))
  simp only [if_true]; refine wpAny_bind (wpAny_rule (wpAny_bind (wpAny_field gz rfl (x := .ref tq) rfl (wpAny_bind (wpAny_setField_rec gz (by simp) fun ha gza sa => wpAny_bind ?_)))))
  replace gza : ZpS ha z ti tq .ellipsis := gza
  simp only [List.zipIdx_cons, List.zipIdx_nil, List.forIn_cons, List.forIn_nil]; refine wpAny_bind (wpAny_bind (wpAny_onRaise ?_))
  refine show wpAny _ _ (Builtin.SmallTypes.nextOrEnd (.ref p1)) _ _ _ from noe_end hh (j1.extBut sa.extBut Z.i1z) (m1.extBut sa.extBut Z.l1z) n1 fun hb sb => ?_
  refine wpAny_bind (wpAny_setField_rec (show ZpS hb z ti tq .ellipsis from sb _ _ Z.i1z.symm gza) (by simp) fun hc gzc sc => ?_)
  refine wpAny_bind ?_
  wp_step
  rw [if_neg (by decide)]
  simp only [List.drop_succ_cons, List.drop_zero, List.zipIdx_cons, List.zipIdx_nil, List.forIn_cons, List.forIn_nil]
  have hn2 : ∀ h3 : Heap, Heap.ExtBut z hb h3 → h3.IsListIter p2 q2 i ∧ h3.IsList q2 ys := fun h3 s3 => ⟨((j2.extBut sa.extBut Z.i2z).extBut sb Z.i12.symm).extBut s3 Z.i2z, ((m2.extBut sa.extBut Z.l2z).extBut sb Z.l2i1).extBut s3 Z.l2z⟩
  refine wpAny_bind (wpAny_bind (wpAny_bind (noe_end hh (hn2 _ sc.extBut).1 (hn2 _ sc.extBut).2 n2 fun hd sd => ?_)))
  simp only [Option.isSome_none, Bool.false_eq_true, if_false]
  refine wpAny_pure (wpAny_pure (wpAny_bind (wpAny_rule ?_)))
  refine zs_stop hh fun h' e k1 k2 => kk h' e (fun c o hcm x => ?_) k2
  have k : c ≠ z ∧ c ≠ tq ∧ c ≠ p1 ∧ c ≠ p2 := by simpa using hcm
  exact k1 _ _ (sd _ _ k.2.2.2 (sc.extBut _ _ k.1 (sb _ _ k.2.2.1 (sa.extBut _ _ k.1 x))))

theorem zs_next {z ti tq p1 p2 q1 q2 : Addr} {i : Nat} {xs ys : Array Value} {x y : Value} {Q : Option Value → Shared → Prop} (Z : ZipApart z ti tq p1 p2 q1 q2) (g : ZSt s.heap z ti tq p1 p2 q1 q2 i) (m1 : s.heap.IsList q1 xs) (m2 : s.heap.IsList q2 ys) (n1 : xs[i]? = some x) (n2 : ys[i]? = some y)
    (kk : ∀ h', ZpS h' z ti tq (rawInt s.heap.objs.size) → IsPair h' tq x y → h'.IsListIter p1 q1 (i + 1) → h'.IsListIter p2 q2 (i + 1) → IsPair h' s.heap.objs.size x y → (∀ c o, c ∉ [z, tq, p1, p2] → s.heap.get? c = some o → h'.get? c = some o) → Q (some (.ref s.heap.objs.size)) { s with heap := h' }) :
    wpAny (model P wd) A (pyNext (.ref z)) Q E s := by
  have gT : s.TypeIs (.ref z) "zip" := ⟨_, g.z, rfl⟩
  unfold pyNext
  exact wpAny_bind (wpAny_attempt (wpAny_callSpecial?_slot (name := Str.ofString "__next__") gT F.slot_zip_next (wpAny_call_entry F.slot_zip_next gT F.entry_zip_next (zs_item Z g m1 m2 n1 n2 fun h' a b c d e f => wpAny_pure (kk h' a b c d e f)) (F.args_zip_next_1 _))))
theorem zs_fin {z ti tq p1 p2 q1 q2 : Addr} {i : Nat} {xs ys : Array Value} {Q : Option Value → Shared → Prop} (hh : A.handled = none) (Z : ZipApart z ti tq p1 p2 q1 q2) (g : ZSt s.heap z ti tq p1 p2 q1 q2 i) (m1 : s.heap.IsList q1 xs) (m2 : s.heap.IsList q2 ys) (n1 : xs[i]? = none) (n2 : ys[i]? = none)
    (kk : ∀ h', (∀ c o, c ∉ [z, tq, p1, p2] → s.heap.get? c = some o → h'.get? c = some o) → Q none { s with heap := h' }) : wpAny (model P wd) A (pyNext (.ref z)) Q E s := by
  have gT : s.TypeIs (.ref z) "zip" := ⟨_, g.z, rfl⟩
  unfold pyNext
  refine wpAny_bind (wpAny_attempt (wpAny_callSpecial?_slot (name := Str.ofString "__next__") gT F.slot_zip_next (wpAny_call_entry F.slot_zip_next gT F.entry_zip_next (zs_end hh Z g m1 m2 n1 n2 fun h' e hk he => ?_) (F.args_zip_next_1 _))))
  obtain ⟨o, ho, hc⟩ := he
  exact wpAny_bind (wpAny_isInstance (T := "StopIteration") (b := true) ⟨o, ho, hc⟩ isSubtype_stop (wpAny_pure (kk _ hk)))
theorem zs_letgo {es : List Expr} {kn} {pos : Pos} {z ti tq N : Addr} {Q : Unit → Shared → Prop} (gz : ZpS s.heap z ti tq (rawInt N)) (kk : ∀ h', ZpS h' z ti tq .none → Heap.SameBut z s.heap h' → Q () { s with heap := h' }) :
    wpAny (model P wd) A (letOwnedTupleGo (.Tuple es kn pos) (.ref z) (.ref N)) Q E s := by
  unfold letOwnedTupleGo
  refine wpAny_bind (wpAny_load gz (?_ : wpAny _ _ (if (["enumerate", "zip", "dict_itemiterator", "dict_reverseitemiterator", "odict_iterator", "itertools.zip_longest", "itertools.pairwise"].contains "zip" && (#[rawInt N, .bool false, .bool true, .ref ti, .ref tq] : Array Value)[0]? == some (rawInt N)) = true then _ else _) Q E s))
  rw [if_pos (by simp)]
  exact wpAny_bind (wpAny_rule (show wpAny _ _ (setField (.ref z) 0 .none) Q E s from wpAny_setField_rec gz (by simp) fun h' a b => kk h' a b))
theorem zs_self {z ti tq : Addr} {f0 : Value} {Q : Value → Shared → Prop} (gz : ZpS s.heap z ti tq f0) (k : Q (.ref z) s) : wpAny (model P wd) A (pyIter (.ref z)) Q E s := by
  have gT : s.TypeIs (.ref z) "zip" := ⟨_, gz, rfl⟩
  exact wpAny_pyIter_slot gT F.slot_zip_iter (wpAny_call_entry F.slot_zip_iter gT F.entry_zip_iter (show wpAny _ _ (ret (.ref z)) _ _ s from wpAny_pure ⟨_, rfl, "zip", _, gT, F.slot_zip_next.lookup, k⟩) (F.args_zip_iter_1 _))
/-- zip(a, b, strict=True) -/
theorem zs_call {a b : Addr} {xs ys : Array Value} {Q : Value → Shared → Prop} (m1 : s.heap.IsList a xs) (m2 : s.heap.IsList b ys)
    (kk : ∀ h', ZSt h' (s.heap.objs.size + 4) (s.heap.objs.size + 2) (s.heap.objs.size + 3) s.heap.objs.size (s.heap.objs.size + 1) a b 0 → (∀ c o, s.heap.get? c = some o → h'.get? c = some o) → Q (.ref (s.heap.objs.size + 4)) { s with heap := h' }) :
    wpAny (model P wd) A (call (.type "zip") [.ref a, .ref b] skw) Q E s := by
  refine tyKw_run F.called_zip (by decide) (zs_check _ _) (zs_new _ _) (fun ob => zs_init ob _ _) F.entry_zip_new (zs_meets a b xs ys) (fun ob => zs_obj ob _ _) ⟨m1, m2, ?_⟩
  have e1 : (zs1 s.heap a).objs.size = s.heap.objs.size + 1 := Heap.size_push ..
  have e2 : (zs2 s.heap a b).objs.size = s.heap.objs.size + 2 := by rw [Heap.size_push, e1]
  have e3 : (zs3 s.heap a b).objs.size = s.heap.objs.size + 3 := by rw [Heap.size_push, e2]
  have e4 : (zs4 s.heap a b).objs.size = s.heap.objs.size + 4 := by rw [Heap.size_push, e3]
  have up : ∀ {h : Heap} {o u : Obj} {c : Addr}, h.get? c = some o → (h.push u).get? c = some o := fun x => Heap.get?_push_of_some _ x
  have k5 : (zs5 s.heap a b).get? (zs4 s.heap a b).objs.size = some _ := Heap.get?_push_size _ rfl
  have k4 : (zs5 s.heap a b).get? (zs3 s.heap a b).objs.size = some _ := up (Heap.get?_push_size _ rfl)
  have k3 : (zs5 s.heap a b).get? (zs2 s.heap a b).objs.size = some _ := up (up (Heap.get?_push_size _ rfl))
  have k2 : (zs5 s.heap a b).get? (zs1 s.heap a).objs.size = some _ := up (up (up (Heap.get?_push_size _ rfl)))
  have k1 : (zs5 s.heap a b).get? s.heap.objs.size = some _ := up (up (up (up (Heap.get?_push_size _ rfl))))
  show _ ∧ _
  rw [e2, e3, e4] at k5
  rw [e1, e2] at k3
  rw [e3] at k4
  rw [e1] at k2
  rw [e4]
  exact ⟨⟨_, k5, rfl⟩, kk _ ⟨k5, k3, ⟨_, _, k4⟩, ⟨_, k1, rfl, rfl⟩, ⟨_, k2, rfl, rfl⟩⟩ fun c o x => up (up (up (up (up x))))⟩
end
end PU
set_option Elab.async false
set_option linter.all false
set_option maxRecDepth 100000
set_option maxHeartbeats 4000000
/-! P14: a loop over a strict zip of two lists of one length. -/
namespace PU
open PySem PySem.Spec PyProof.Rows L2
/-- two lists of one length -/
def Izs (K : Fg) (a b : Addr) : It :=
  ⟨(Itz K a b).go, (Itz K a b).yld, fun i H => ∃ xs ys : List V, SqL K H a xs ∧ SqL K H b ys ∧ xs.length ≤ i ∧ ys.length ≤ i⟩
theorem zs_turn {P : Program} {wd : World} {K : Fg} {es : List Expr} {kn : Nat} {tpos : Pos} {a b z ti tq p1 p2 : Addr} (Z : ZipApart z ti tq p1 p2 a b) : Turn P wd K (.Tuple es kn tpos) (Izs K a b) [z, ti, tq, p1, p2] z (fun i h => ZSt h z ti tq p1 p2 a b i) where
  mem := List.mem_cons_self
  obj := fun i h g c hc => by
    obtain ⟨g1, g2, ⟨u, v, g3⟩, ⟨o1, e1, _, d1⟩, ⟨o2, e2, _, d2⟩⟩ := g
    rcases (show c = z ∨ c = ti ∨ c = tq ∨ c = p1 ∨ c = p2 by simpa using hc) with rfl | rfl | rfl | rfl | rfl
    · exact ⟨_, g1, fun v q => nomatch q⟩
    · exact ⟨_, g2, fun v q => nomatch q⟩
    · exact ⟨_, g3, fun v q => nomatch q⟩
    · exact ⟨o1, e1, fun v q => by rw [d1] at q; cases q⟩
    · exact ⟨o2, e2, fun v q => by rw [d2] at q; cases q⟩
  keep := fun i h h' g k => by
    obtain ⟨g1, g2, ⟨u, v, g3⟩, g4, g5⟩ := g
    exact ⟨k z (by simp) _ g1, k ti (by simp) _ g2, ⟨u, v, k tq (by simp) _ g3⟩, g4.at fun o q => k p1 (by simp) o q, g5.at fun o q => k p2 (by simp) o q⟩
  item := by
    intro X eP eW eK hc i pins s σ H E I hf g hg
    subst eP eW eK
    obtain ⟨xs, ys, x, y, sx, sy, ex, ey⟩ := hg
    obtain ⟨us, ru, pu, _⟩ := I.list sx
    obtain ⟨vs, rv, pv, _⟩ := I.list sy
    obtain ⟨u, hu, rx⟩ := ru.get ex
    obtain ⟨v, hv, ry⟩ := rv.get ey
    have lz : z < s.heap.objs.size := Heap.lt_size g.z
    have lt : ti < s.heap.objs.size := Heap.lt_size g.t
    have lq : tq < s.heap.objs.size := by obtain ⟨_, _, e⟩ := g.q; exact Heap.lt_size e
    have l1 : p1 < s.heap.objs.size := by obtain ⟨_, e, _⟩ := g.x; exact Heap.lt_size e
    have l2 : p2 < s.heap.objs.size := by obtain ⟨_, e, _⟩ := g.y; exact Heap.lt_size e
    have gt := g.t
    refine zs_next Z g pu.isList pv.isList (x := u) (y := v) (by simpa using hu) (by simpa using hv) fun h' k1 k2 k3 k4 k5 k6 => ⟨_, rfl, zs_letgo (s := { s with heap := h' }) k1 fun h2 k7 sb => ?_⟩
    have pair : h2.get? s.heap.objs.size = some { cls := .type "tuple", data := .seq #[u, v] } := (sb.2 _ (Nat.ne_of_gt lz)).trans k5
    have new : ObjOk X.prog X.w (upd H s.heap.objs.size (.tup [x, y])) h2 s.heap.objs.size (.tup [x, y]) := ⟨by show 2 ≤ sizeLine; decide, [u, v], .cons rx (.cons ry .nil), ⟨_, pair, rfl, _, rfl⟩⟩
    have I1 : Inv X pins σ (upd H s.heap.objs.size (.tup [x, y])) { s with heap := h2 } :=
      I.turnedNew (t' := s.toks) (ch := [z, ti, tq, p1, p2]) (fun c o hb q => by
        have n : c ≠ z ∧ c ≠ ti ∧ c ≠ tq ∧ c ≠ p1 ∧ c ≠ p2 := by simpa using hb
        exact (sb.2 c n.1).trans (k6 c o (by simp [n]) q)) hf (Nat.le_refl _) new
    refine ⟨.ref s.heap.objs.size, _, I1, rfl, ⟨_, x, y, rfl, I.hok.fresh (Nat.le_refl _), rfl, fun l hl => by rw [I.list_inj hl sx]; exact ex, fun l hl => by rw [I.list_inj hl sy]; exact ey⟩, ⟨k7, ?_, ⟨u, v, ?_⟩, ?_, ?_⟩, fun c hcm => ?_⟩
    · exact (sb.2 _ Z.TIz).trans (k6 _ _ (by simp [Z.TIz, Z.TITO, Z.TIi1, Z.TIi2]) gt)
    · exact (sb.2 _ Z.TOz).trans k2
    · exact k3.at fun o q => (sb.2 _ Z.i1z).trans q
    · exact k4.at fun o q => (sb.2 _ Z.i2z).trans q
    · have hlt : c < s.heap.objs.size := by
        rcases (show c = z ∨ c = ti ∨ c = tq ∨ c = p1 ∨ c = p2 by simpa using hcm) with rfl | rfl | rfl | rfl | rfl <;> assumption
      rw [upd_ne (Nat.ne_of_lt hlt)]
      exact (hf c hcm).1
  done := by
    intro X eP eW eK hc i pins s σ H E I hf g hg
    subst eP eW eK
    obtain ⟨xs, ys, sx, sy, lx, ly⟩ := hg
    obtain ⟨us, ru, pu, _⟩ := I.list sx
    obtain ⟨vs, rv, pv, _⟩ := I.list sy
    have e1 := ru.length
    have e2 := rv.length
    refine zs_fin (I.ok.hd hc) Z g pu.isList pv.isList (by simp; omega) (by simp; omega) fun h' hk => ⟨rfl, I.turnedL (t' := s.toks) (ch := [z, ti, tq, p1, p2]) (fun c o hb q => ?_) hf⟩
    have n : c ≠ z ∧ c ≠ ti ∧ c ≠ tq ∧ c ≠ p1 ∧ c ≠ p2 := by simpa using hb
    exact hk c o (by simp [n]) q
  self := fun A i s Q E g h => zs_self g.z h
theorem walk_zs {K : Fg} {a b : Addr} {xs ys : List V} (hl : xs.length = ys.length) : Walk (Izs K a b) xs.length (fun H => SqL K H a xs ∧ SqL K H b ys) (YPair (fun i => xs[i]?) (fun i => ys[i]?)) := by
  refine ⟨fun i _ hi q => ?_, fun _ q => ⟨xs, ys, q.1, q.2, by omega, by omega⟩, fun i H v H' _ q y => ?_⟩
  · have h2 : i < ys.length := by omega
    exact ⟨xs, ys, xs[i], ys[i], q.1, q.2, by simp [hi], by simp [h2]⟩
  · obtain ⟨T, x, z, h1, h2, h3, h4, h5⟩ := y
    exact ⟨T, x, z, h1, h2, h3, h4 xs q.1, h5 ys q.2⟩
theorem callWith_tyKw {M : Model} {A : Around} {E : Value → Shared → Prop} {s : Shared} {env : Env} {pos : Pos} {N : String} {e : Expr} {rest : List Expr} {kws : List Keyword} {Q : Value → Shared → Prop}
    (h : wpAny M A (spliced (backTo pos (starEach (e :: rest) env))) (fun vs t => wpAny M A (evalAll ((backToKw pos (keywordEach kws env)).map (·.2))) (fun zs u => wpAny M A (call (.type N) vs (((backToKw pos (keywordEach kws env)).filterMap (·.1)).zip zs)) Q E u) E t) E s)
    (he : backTo pos (starEach (e :: rest) env) = (false, eval e env) :: backTo pos (starEach rest env)) (hp : (backTo pos (starEach (e :: rest) env)).any (·.1) = false) (hall : (backToKw pos (keywordEach kws env)).all (·.1.isSome) = true) (hn : (backToKw pos (keywordEach kws env)).any (·.1.isNone) = false) :
    wpAny M A (callWith pos (.type N) [] (backTo pos (starEach (e :: rest) env)) (backToKw pos (keywordEach kws env))) Q E s := by
  have key : wpAny M A (evalArgs (.type N) true (backTo pos (starEach (e :: rest) env)) (backToKw pos (keywordEach kws env))) (fun a t => wpAny M A (call (.type N) ([] ++ a.pos) a.kw) Q E t) E s := by
    rw [he] at h ⊢
    exact evalArgs_kwB hall h
  unfold callWith
  refine wpAny_bind (wpAny_holding (wpAny_mono key (fun a t k => wpAny_bind (wpAny_standAt ?_)) fun _ _ x => x))
  simp only [hp, hn, Bool.or_false]
  exact wpAny_bind (wpAny_pure (wpAny_bind (wpAny_mono k (fun r u hr => wpAny_bind (wpAny_holding (wpAny_point (wpAny_pure hr)))) fun _ _ x => x)))
section
variable {X : Cx} {e e2 e3 : Expr} {ρ : Rho} {T : Th} {xs ys : List D} {pos p tpos kpos cp : Pos} {elts : List Expr} {kk j : Nat}
theorem evi_zipS (hm : X.mg "zip" = none) (h : Ev X e ρ T (.lst xs)) (h2 : Ev X e2 ρ T (.lst ys)) (hl : xs.length = ys.length) (hg : Gl X "zip" := by rfl) (hs : starEach [e, e2] X.env = (false, eval e X.env) :: starEach [e2] X.env := by rfl) (hs2 : starEach [e2] X.env = [(false, eval e2 X.env)] := by rfl)
    (he : backTo pos (starEach [e, e2] X.env) = (false, eval e X.env) :: backTo pos (starEach [e2] X.env) := by rfl) (hp : (backTo pos (starEach [e, e2] X.env)).any (·.1) = false := by rfl)
    (hall : (backToKw pos (keywordEach [⟨some "strict", .Constant (.bool true) j cp, kpos⟩] X.env)).all (·.1.isSome) = true := by rfl) (hn : (backToKw pos (keywordEach [⟨some "strict", .Constant (.bool true) j cp, kpos⟩] X.env)).any (·.1.isNone) = false := by rfl)
    (hks : (backToKw pos (keywordEach [⟨some "strict", .Constant (.bool true) j cp, kpos⟩] X.env)).filterMap (·.1) = [Str.ofString "strict"] := by rfl) :
    EvI X (.Tuple elts kk tpos) (.Call (.Name "zip" p) [e, e2] [⟨some "strict", .Constant (.bool true) j cp, kpos⟩] pos) ρ T (zipD xs ys) := by
  refine ⟨fun pins s σ H R I hw => ?_⟩
  obtain ⟨Hf, Hr, w, en, q⟩ := hw
  refine wpAny_Call_Name_kw (ld_blt I hg hm PyProof.Rows.boot_zip (callWith_tyKw ?_ he hp hall hn))
  refine thn ((eva_cons h (eva_cons h2 eva_nil (by rw [hs2]; rfl)) hs).run pos pins s σ H (fun vs H1 => ∃ Hf1, Ex Hf Hf1 ∧ Wd X.K Hf1 Hr H1 T ∧ IsL X.K Hf1 [.lst xs, .lst ys] vs) I ⟨Hf, Hr, w, en, fun vs H1 Hf1 a b c => ⟨Hf1, a, b, c⟩⟩) fun us s1 ⟨vs, H1, I1, r1, Hf1, e1, w1, i1⟩ => ?_
  obtain ⟨x, y, rfl, ix, iy⟩ := isL2 i1
  obtain ⟨a, vs, rfl, ha, la⟩ := is_lst.mp ix
  obtain ⟨b, ws, rfl, hb, lb⟩ := is_lst.mp iy
  refine thn ((pk_cons (nm := some "strict") (kpos := kpos) (pe_bl (X := X)) pk_nil).run pos pins s1 σ H1 (fun zs H2 => zs = [.bl true] ∧ H2 = H1) I1 ⟨rfl, rfl⟩) fun zs s2 ⟨ks, H2, I2, r2, e3, e4⟩ => ?_
  subst e3 e4
  rw [hks]
  cases r2 with
  | cons rk rn =>
  cases rn
  cases rk
  cases r1 with
  | cons ra rr =>
  cases rr with
  | cons rb rr =>
  cases rr
  cases ra
  cases rb
  obtain ⟨its, rv, p1, _⟩ := I2.list (SqL.of (w1.f _ _ ha))
  obtain ⟨its2, rv2, p2, _⟩ := I2.list (SqL.of (w1.f _ _ hb))
  have qa : a < s2.heap.objs.size := p1.lt
  have qb : b < s2.heap.objs.size := p2.lt
  refine zs_call p1.isList p2.isList fun h' g hk => zs_self g.z ?_
  have I3 : Inv X pins σ H2 { s2 with heap := h' } := I2.kept (t' := s2.toks) hk
  have lvw : vs.length = ws.length := by rw [← la.len, ← lb.len, hl]
  refine ⟨s2.heap.objs.size + 4, [s2.heap.objs.size + 4, s2.heap.objs.size + 2, s2.heap.objs.size + 3, s2.heap.objs.size, s2.heap.objs.size + 1], _, _, H2, rfl, I3, zs_turn (PySem.W.ktu_apart s2.heap.objs.size a b qa qb), g, fun c hcm => ?_, q (Izs X.K a b) H2 Hf1 e1 w1 (itd_pair (n := vs.length) (by unfold zipD; rw [List.length_zipWith, la.len, lb.len]; omega) (walk_zs lvw) (fun H e => ⟨SqL.of (e _ _ ha), SqL.of (e _ _ hb)⟩) fun i x y ex ey => ?_)⟩
  · have hle : s2.heap.objs.size ≤ c := by
      rcases (show c = s2.heap.objs.size + 4 ∨ c = s2.heap.objs.size + 2 ∨ c = s2.heap.objs.size + 3 ∨ c = s2.heap.objs.size ∨ c = s2.heap.objs.size + 1 by simpa using hcm) with rfl | rfl | rfl | rfl | rfl <;> omega
    exact I2.fpOk hle (I2.hok.fresh hle)
  · obtain ⟨d, e4, k⟩ := la.getV ex
    obtain ⟨d2, e5, k2⟩ := lb.getV ey
    exact ⟨d, d2, by unfold zipD; rw [List.getElem?_zipWith, e4, e5], k, k2⟩
end
end PU
set_option Elab.async false
set_option linter.all false
set_option maxRecDepth 100000
set_option maxHeartbeats 4000000
/-! P15: {key: value for target in iterable}. -/
namespace PU
open PySem PySem.Spec PyProof.Rows L2
section
variable {X : Cx} {kx vx tg iter : Expr} {ifs : List Expr} {scope : Scope} {pos : Pos} {ρ : Rho} {T : Th}
def putsA {α : Type} (kf : α → Key) (g : α → D) (xs : List α) : List (Key × D) := mergeA [] (xs.map fun x => (kf x, g x))
theorem putsA_succ {α : Type} (kf : α → Key) (g : α → D) (xs : List α) (i : Nat) (x : α) (h : xs[i]? = some x) : putsA kf g (xs.take (i + 1)) = putA (putsA kf g (xs.take i)) (kf x) (g x) := by
  unfold putsA mergeA
  rw [List.take_add_one, h, List.map_append, List.foldl_append]
  rfl
theorem putsA_len {α : Type} (kf : α → Key) (g : α → D) (xs : List α) : ∀ i, (putsA kf g (xs.take i)).length ≤ i := by
  intro i
  induction i with
  | zero => simp [putsA, mergeA]
  | succ i ih =>
    cases h : xs[i]? with
    | none =>
      have e : xs.take (i + 1) = xs.take i := by
        rw [List.take_add_one, h]; simp
      rw [e]; omega
    | some x =>
      rw [putsA_succ _ _ _ _ _ h]
      have := putA_len (putsA kf g (xs.take i)) (kf x) (g x)
      omega
theorem tDc_D {α : Type} (xs : List α) (φ : α → D) (kf : α → Key) (g : α → D) (own : List (Str × Nat)) (ρ' : α → Rho) (js : List Nat) {tk tv : TE} {tt : TT} {tg : TG} (hl : xs.length ≤ 1000000) (hjs : ∀ j ∈ js, j ∈ own.map (·.2))
    (hg : ∀ x v σ H Q, x ∈ xs → tG X.K (φ x) (wipeR ρ (own.map (·.2))) (ρ' x) js v σ H Q → tg v σ H Q) (ht : ∀ x σ H Q, x ∈ xs → tT X.K (ρ' x) T true σ H Q → tt σ H Q) (hk : ∀ x σ H Q, x ∈ xs → tE X.K (ρ' x) T (keyD (kf x)) σ H Q → tk σ H Q) (hv : ∀ x σ H Q, x ∈ xs → tE X.K (ρ' x) T (g x) σ H Q → tv σ H Q)
    {σ : L2.St} {H : Hp} {Q : VK} (h : tE X.K ρ T (.dk (putsA kf g xs)) σ H Q) : tDc (tI X.K ρ T (xs.map φ)) tg tt tk tv (own.map (·.2)) σ H Q := by
  obtain ⟨Hf, Hr, w, en, q⟩ := h
  refine ⟨Hf, Hr, w, en, fun J H1 Hf1 e1 w1 it D hD => ?_⟩
  obtain ⟨G, Y, wk, hG, hY⟩ := it.ex
  rw [List.length_map] at wk hY
  have hfD : Hf1 D = none := w1.f.back hD
  have hrD : Hr D = none := w1.r.back hD
  have hTD : T D = none := by
    cases z : T D with
    | none => rfl
    | some c =>
      obtain ⟨o, z2⟩ := Own.there (w1.to D c z)
      rw [hD] at z2; cases z2
  have en1 := en.mono e1
  refine ⟨fun i m H' => m = xs.length - i ∧ i ≤ xs.length ∧ ∃ Hf' acc, Ex Hf1 Hf' ∧ Wd X.K Hf' (upd Hr D (.dK (((putsA kf g (xs.take i)).map (·.1)).zip acc))) H' T ∧ ((putsA kf g (xs.take i)).map (·.1)).length = acc.length ∧ IsL X.K Hf' ((putsA kf g (xs.take i)).map (·.2)) acc, ⟨xs.length, by simp, Nat.zero_le _, Hf1, [], Ex.refl _, w1.held hD, rfl, .nil⟩, ?_⟩
  rintro i m H' ⟨rfl, hi, Hf', acc, e', w', hal, il⟩
  have gG : G H' := hG H' (e'.trans w'.f)
  by_cases hlt : i < xs.length
  · refine .inr ⟨wk.goes i H' hlt gG, _, fun H2 p2 => ⟨xs.length - (i + 1), by omega, rfl, hlt, p2⟩, fun v H2 y => ?_⟩
    obtain ⟨d, Hf2, hd, e2, w2, k⟩ := hY i H' v H2 Hf' _ T hlt e' w' (wk.yields i H' v H2 hlt gG y)
    have hx : xs[i]? = some xs[i] := List.getElem?_eq_getElem hlt
    have hd' : φ xs[i] = d := by
      rw [List.getElem?_map, hx] at hd
      exact Option.some.inj hd
    subst hd'
    have hm : xs[i] ∈ xs := List.getElem_mem hlt
    refine hg _ _ _ _ _ hm ⟨Hf2, w2.f, (en1.mono (e'.trans e2)).wipe _, k, fun σ2 en2 wp => ⟨by rw [wp _ hjs]; exact wipe_wipe _ _, ht _ _ _ _ hm ⟨Hf2, _, w2, en2, fun H3 Hf3 e3 w3 => ?_⟩⟩⟩
    refine hk _ _ _ _ hm ⟨Hf3, _, w3, en2.mono e3, fun v4 H4 Hf4 e4 w4 k4 => hv _ _ _ _ hm ⟨Hf4, _, w4, en2.mono (e3.trans e4), fun v5 H5 Hf5 e5 w5 k5 => ?_⟩⟩
    obtain ⟨acc', ea, la, ia⟩ := put_is (putsA kf g (xs.take i)) acc (kf xs[i]) (il.mono (((e2.trans e3).trans e4).trans e5)) k5
    have hlen := putsA_len kf g xs i
    refine ⟨_, kf xs[i], keyD_is k4, w5.r _ _ upd_same, ?_, Hf5, acc', (((e'.trans e2).trans e3).trans e4).trans e5, ?_, ?_, ?_⟩
    · rw [List.length_zip, List.length_map]
      have : sizeLine ≥ 1000000 + 1 := by decide
      omega
    · rw [putsA_succ _ _ _ _ _ hx, ← ea]
      exact Wd.bump hTD (by intro x; exact fun z => nomatch z) w5
    · rw [putsA_succ _ _ _ _ _ hx]; exact la
    · rw [putsA_succ _ _ _ _ _ hx]; exact ia
  · have e : i = xs.length := by omega
    subst e
    rw [List.take_length] at il hal w'
    have hfn : Hf' D = none := by
      cases z : Hf' D with
      | none => rfl
      | some u => have := w'.d D u z; rw [upd_same] at this; cases this
    exact .inl ⟨wk.stops H' gG, q _ _ _ ((e1.trans e').trans (Ex.new hfn)) (w'.take hrD) (new_dct hfn hal il)⟩
theorem ev_dc {α : Type} (xs : List α) (φ : α → D) (kf : α → Key) (g : α → D) (own : List (Str × Nat)) (ρ' : α → Rho) (js : List Nat) (hc : X.calm = true) (hN : X.N.Nodup) (hi : EvI X tg iter ρ T (xs.map φ)) (ok : blkC X.N X.env.scope scope own = true) (hl : xs.length ≤ 1000000) (hjs : ∀ j ∈ js, j ∈ own.map (·.2))
    (hg : ∀ x, x ∈ xs → ∀ s H C cl fp, EvG (BX X s H scope cl C fp) tg (φ x) (wipeR ρ (own.map (·.2))) (ρ' x) js)
    (hk : ∀ x, x ∈ xs → ∀ s H C cl fp, Ev (BX X s H scope cl C fp) kx (ρ' x) T (keyD (kf x)))
    (he : ∀ x, x ∈ xs → ∀ s H C cl fp, Ev (BX X s H scope cl C fp) vx (ρ' x) T (g x)) (hs : ∀ x, foldedSetIterable iter X.env x = pure x := by intro _; rfl) :
    Ev X (.DictComp kx vx [⟨tg, iter, [], 0⟩] scope pos) ρ T (.dk (putsA kf g xs)) :=
  PE_imp (pe_dc (own := own) (g := fun v σ H Q => ∃ x ∈ xs, tG X.K (φ x) (wipeR ρ (own.map (·.2))) (ρ' x) js v σ H Q) (tt := fun σ H Q => ∃ x ∈ xs, tT X.K (ρ' x) T true σ H Q) (tk := fun σ H Q => ∃ x ∈ xs, tE X.K (ρ' x) T (keyD (kf x)) σ H Q) (tv := fun σ H Q => ∃ x ∈ xs, tE X.K (ρ' x) T (g x) σ H Q)
    hc hN hi (blkOk_by ok) (fun s H C cl fp => ⟨fun pins s' σ H' v u Q I r ⟨x, m, q⟩ => (hg x m s H C cl fp).run pins s' σ H' v u Q I r q⟩) (fun s H C cl fp => ⟨fun pins s' σ H' Q I ⟨x, m, q⟩ => (evts_nil (X := BX X s H scope cl C fp)).run pins s' σ H' Q I q⟩) (fun s H C cl fp => ⟨fun pins s' σ H' Q I ⟨x, m, q⟩ => (hk x m s H C cl fp).run pins s' σ H' Q I q⟩) (fun s H C cl fp => ⟨fun pins s' σ H' Q I ⟨x, m, q⟩ => (he x m s H C cl fp).run pins s' σ H' Q I q⟩) hs)
    fun σ H Q h => tDc_D xs φ kf g own ρ' js hl hjs (fun x v σ H Q m q => ⟨x, m, q⟩) (fun x σ H Q m q => ⟨x, m, q⟩) (fun x σ H Q m q => ⟨x, m, q⟩) (fun x σ H Q m q => ⟨x, m, q⟩) h
end
end PU
set_option Elab.async false
set_option linter.all false
set_option maxRecDepth 100000
set_option maxHeartbeats 4000000
/-! P16: targets among which attributes stand; classes made, their methods. -/
namespace PU
open PySem PySem.Spec PyProof.Rows L2
/-! ### targets that change what is owned -/
def tGw (K : Fg) (d : D) (ρ ρ' : Rho) (T T' : Th) : TG := fun v σ H Q => ∃ Hf Hr, Wd K Hf Hr H T ∧ EnvF K Hf σ ρ ∧ Is K Hf d v ∧ ∀ σ' H' Hf', Ex Hf Hf' → Wd K Hf' Hr H' T' → EnvF K Hf' σ' ρ' → Q σ' H'
def tGws (K : Fg) (ds : List D) (ρ ρ' : Rho) (T T' : Th) : TGs := fun vs σ H Q => ∃ Hf Hr, Wd K Hf Hr H T ∧ EnvF K Hf σ ρ ∧ IsL K Hf ds vs ∧ ∀ σ' H' Hf', Ex Hf Hf' → Wd K Hf' Hr H' T' → EnvF K Hf' σ' ρ' → Q σ' H'
abbrev EvGW (X : Cx) (tg : Expr) (d : D) (ρ ρ' : Rho) (T T' : Th) : Prop := PG X tg (tGw X.K d ρ ρ' T T')
abbrev EvGWs (X : Cx) (tg : List Expr) (ds : List D) (ρ ρ' : Rho) (T T' : Th) : Prop := PGs X tg (tGws X.K ds ρ ρ' T T')
section
variable {X : Cx} {e o tg value : Expr} {es : List Expr} {ρ ρ' ρ'' : Rho} {T T' T'' : Th} {d : D} {ds : List D} {js : List Nat} {pos : Pos} {R : Rs} {x : Str}
theorem evgw_of (h : EvG X tg d ρ ρ' js) : EvGW X tg d ρ ρ' T T := PG_imp h fun v σ H Q ⟨Hf, Hr, w, en, i, q⟩ => ⟨Hf, w.f, en, i, fun σ' en' _ => q σ' H Hf (Ex.refl _) w en'⟩
theorem evgws_nil : EvGWs X [] [] ρ ρ T T := PGs_imp pgs_nil fun v σ H Q ⟨Hf, Hr, w, en, i, q⟩ => ⟨by simpa only [IsL] using i, q σ H Hf (Ex.refl _) w en⟩
theorem evgws_cons (h1 : EvGW X e d ρ ρ' T T') (h2 : EvGWs X es ds ρ' ρ'' T' T'') (hs : (assignEach (e :: es) X.env).map (·.2) = assign e X.env :: (assignEach es X.env).map (·.2) := by rfl) : EvGWs X (e :: es) (d :: ds) ρ ρ'' T T'' :=
  PGs_imp (pgs_cons h1 h2 hs) fun vs σ H Q ⟨Hf, Hr, w, en, i, q⟩ => by
    simp only [IsL] at i
    obtain ⟨v, r, rfl, i1, i2⟩ := i
    exact ⟨v, r, rfl, Hf, Hr, w, en, i1, fun σ' H' Hf' e' w' en' => ⟨Hf', Hr, w', en', i2.mono e', fun σ2 H2 Hf2 e2 w2 en2 => q σ2 H2 Hf2 (e'.trans e2) w2 en2⟩⟩
theorem evgw_tup {es : List Expr} {k : Nat} (hc : X.calm = true) (h : EvGWs X es ds ρ ρ' T T') (hn : (assignEach es X.env).length = ds.length := by rfl) (hst : (assignEach es X.env).findIdx? (·.1) = none := by rfl) : EvGW X (.Tuple es k pos) (.tup ds) ρ ρ' T T' :=
  PG_imp (pg_tup hc h hn hst) fun v σ H Q ⟨Hf, Hr, w, en, i, q⟩ => by
    obtain ⟨p, xs, rfl, hp, l⟩ := is_tup.mp i
    exact ⟨p, xs, rfl, ex_t w.f hp, by rw [l.len], Hf, Hr, w, en, l, q⟩
def gFld (K : Fg) (ta : TE) (f : Str) : TG := fun v σ H Q => ta σ H fun y H2 => ∃ a C dx fs, y = .ref a ∧ H2 a = some (.ins C dx fs) ∧ Cls K C ∧ NoAttr K C f ∧ fs.length < 1000 ∧ Q σ (upd H2 a (.ins C dx (putF f v fs)))
theorem pg_fld {ta : TE} {f : Str} (ho : PE X o ta) : PG X (.Attribute o f pos) (gFld X.K ta f) := by
  refine ⟨fun pins s σ H v u Q I r h => ?_⟩
  rw [arm_assign_Attribute]
  refine wpAny_bind (wpAny_holding (thn (ho.run pins s σ H _ I h) fun ov s1 ⟨y, H1, I1, r1, a, C, dx, fs, ey, ea, c, n, l, q⟩ => ?_))
  subst ey
  obtain rfl : ov = Value.ref a := r1
  exact wpAny_bind (wpAny_standAt (wpAny_bind (wpAny_holding (setattr_ok I1 ea c n l r fun s2 I2 => wpAny_release ⟨σ, _, I2, q⟩))))
theorem evgw_fld {C p : Addr} {fs : List Str} {ds : List D} (ho : Ev X o ρ T (.ptr p)) (hp : T p = some (.obj C fs ds)) (cl : Cls X.K C) (na : NoAttr X.K C x) (hx : x ∉ fs) (hl : fs.length ≤ 100) : EvGW X (.Attribute o x pos) d ρ ρ T (tset T p (.obj C (fs ++ [x]) (ds ++ [d]))) := by
  refine ⟨fun pins s σ H v u Q I r ⟨Hf, Hr, w, en, i, q⟩ => ?_⟩
  rw [arm_assign_Attribute]
  refine wpAny_bind (wpAny_holding (thn (ho.run pins s σ H (fun y H1 => y = .ref p ∧ ∃ Hf1, Ex Hf Hf1 ∧ Wd X.K Hf1 Hr H1 T) I ⟨Hf, Hr, w, en, fun y H1 Hf1 e1 w1 i1 => ⟨is_ptr.mp i1, Hf1, e1, w1⟩⟩) fun ov s1 ⟨y, H1, I1, r1, ey, Hf1, e1, w1⟩ => ?_))
  subst ey
  obtain rfl : ov = Value.ref p := r1
  have o1 := w1.to p _ hp
  simp only [Own] at o1
  obtain ⟨dx, xs, h1, h2, h3, l1, il⟩ := o1
  have hzl : (fs.zip xs).length < 1000 := by rw [List.length_zip]; omega
  refine wpAny_bind (wpAny_standAt (wpAny_bind (wpAny_holding (setattr_ok I1 h1 cl na hzl r fun s2 I2 => wpAny_release ⟨σ, _, I2, ?_⟩))))
  rw [putF_zip x v fs xs l1 hx]
  exact q σ _ Hf1 e1 (w1.fld hp h1 h2 (by simp [l1]) (il.app (.one (i.mono e1)))) (en.mono e1)
theorem ru_asgW (h : Ev X e ρ T d) (hg : EvGW X tg d ρ ρ' T T') (hn : R.nx ρ' T') (hs : swapsWithSole [tg] e pos.line X.env = pure false := by rfl) (hw : swappedStores [tg] e X.env = pure none := by rfl)
    (h1 : (assignEach [tg] X.env).map (·.2) = [assign tg X.env] := by rfl) : RuS X (.Assign [tg] e pos) ρ T R := PS_imp (ps_asg h hg hs hw h1) fun D σ H ⟨Hf, Hr, w, en, k⟩ =>
  ⟨Hf, Hr, w, en, fun v H2 Hf2 e2 w2 i => ⟨Hf2, Hr, w2, en.mono e2, i, fun σ' H' Hf' e' w' en' => k.1 ρ' T' σ' H' Hf' hn (e2.trans e') w' en'⟩⟩
end
/-! ### classes -/
/-- the promise of an __init__: what it is given behind self, the fields that it sets -/
def Pj (K : Fg) (TB : Th) (C : Addr) (S : List D → List Str → List D → Prop) : Sp := fun vs H Q _ => ∃ Hf Hr a ds fs os ws, S ds fs os ∧ TB a = none ∧ Wd K Hf Hr H (tset TB a (.obj C [] [])) ∧ vs = .ref a :: ws ∧ IsL K Hf ds ws ∧ ∀ H' Hf', Ex Hf Hf' → Wd K Hf' Hr H' (tset TB a (.obj C fs os)) → Q .non H'
structure Dj (P : Program) (w : World) (K : Fg) (mg : Str → Option Value) (base : Heap) (TB : Th) (k : Nat) (x : Str) (C : Addr) (S : List D → List Str → List D → Prop) : Prop where
  to : TabOnly TB
  ex : ∃ f fd ps, mg x = some (.ref C) ∧ Mk K C f ∧ Binds K fd ps [] ∧ FnOk P w K mg base CX0 k f fd ps (Pj K TB C S)
/-- a method's promise -/
structure Dm (P : Program) (w : World) (K : Fg) (mg : Str → Option Value) (base : Heap) (TB : Th) (k : Nat) (C : Addr) (m : Str) (S : List D → D → Prop) : Prop where
  to : TabOnly TB
  ex : ∃ f fd ps, Meth K C m f ∧ Binds K fd ps [] ∧ FnOk P w K mg base CX0 k f fd ps (Pu K TB S)
section
variable {P : Program} {w : World} {K : Fg} {mg : Str → Option Value} {base : Heap} {TB : Th}
theorem Dj.mono {j k : Nat} {x : Str} {C : Addr} {S : List D → List Str → List D → Prop} (F : Dj P w K mg base TB j x C S) (h : j ≤ k) : Dj P w K mg base TB k x C S := by
  obtain ⟨to, f, fd, ps, a, b, c, d⟩ := F
  exact ⟨to, f, fd, ps, a, b, c, d.mono h⟩
theorem Dm.mono {j k : Nat} {m : Str} {C : Addr} {S : List D → D → Prop} (F : Dm P w K mg base TB j C m S) (h : j ≤ k) : Dm P w K mg base TB k C m S := by
  obtain ⟨to, f, fd, ps, a, b, c⟩ := F
  exact ⟨to, f, fd, ps, a, b, c.mono h⟩
/-- a method of the text as it stands -/
structure AtM (K : Fg) (C : Addr) (x q : Str) (st : Stmt) (ps : List Str) : Prop where
  ex : ∃ f fd, Fun K x q st f fd ∧ Meth K C x f ∧ Binds K fd ps []
structure AtI (K : Fg) (mg : Str → Option Value) (x : Str) (C : Addr) (q : Str) (st : Stmt) (ps : List Str) : Prop where
  ex : ∃ f fd, Fun K "__init__" q st f fd ∧ mg x = some (.ref C) ∧ Mk K C f ∧ Binds K fd ps []
theorem mk_dm {x q : Str} {C : Addr} {st : Stmt} {N ps : List Str} {k : Nat} {S : List D → D → Prop} (to : TabOnly TB) (a : AtM K C x q st ps) (Sc : FnScope N ps (defScope st)) (hl : ∀ ds d, S ds d → ds.length = ps.length)
    (h : ∀ f cdv A outer s H E ds d, Room k (BodyX P w K mg base N q st f cdv A outer s H E).A → S ds d → Ru (BodyX P w K mg base N q st f cdv A outer s H E) (defBody st) (rho0 N ds) TB (Rd0 TB d)) : Dm P w K mg base TB (k + 1) C x S := by
  obtain ⟨f, fd, F, hm, hb⟩ := a.ex
  exact ⟨to, f, fd, ps, hm, hb, fn_pu F Sc hl (h f)⟩
theorem mk_dj {x q : Str} {C : Addr} {st : Stmt} {N ps : List Str} {k : Nat} {S : List D → List Str → List D → Prop} (to : TabOnly TB) (a : AtI K mg x C q st ps) (Sc : FnScope N ps (defScope st)) (hl : ∀ ds fs os, S ds fs os → ds.length + 1 = ps.length)
    (h : ∀ f cdv A outer s H E ds fs os p, TB p = none → Room k (BodyX P w K mg base N q st f cdv A outer s H E).A → S ds fs os →
      Ru (BodyX P w K mg base N q st f cdv A outer s H E) (defBody st) (rho0 N (.ptr p :: ds)) (tset TB p (.obj C [] [])) { nx := fun _ T => T = tset TB p (.obj C fs os), rt := fun _ _ => False }) : Dj P w K mg base TB (k + 1) x C S := by
  obtain ⟨f, fd, F, hm, hk, hb⟩ := a.ex
  refine ⟨to, f, fd, ps, hm, hk, hb, F.ok Sc (fun vs H Q E ⟨Hf, Hr, p, ds, fs, os, ws, hS, hp, wd, ev, il, q⟩ => by rw [ev, List.length_cons, ← il.len]; exact hl ds fs os hS) fun cdv A outer s H vs Q E hr ⟨Hf, Hr, p, ds, fs, os, ws, hS, hp, wd, ev, il, q⟩ => ?_⟩
  subst ev
  exact ⟨_, h f cdv A outer s H E ds fs os p hp hr hS, Hf, Hr, wd, env0 (.cons (is_ptr.mpr rfl) il), fun ρ' T' σ' H' Hf' e e' w' en' => by subst e; exact q H' Hf' e' w', fun _ _ _ _ _ z => z.elim, fun _ _ _ _ _ z => z.elim, fun _ _ _ _ _ z => z.elim⟩
end
section
variable {X : Cx} {e o : Expr} {es : List Expr} {ρ : Rho} {T : Th} {pos p apos : Pos} {d d1 : D} {ds : List D} {x m : Str} {k : Nat}
theorem Wd.made {K : Fg} {Hf Hr H : Hp} {T : Th} {p C dx : Addr} (w : Wd K Hf Hr H T) (hp : H p = none) (hd : H dx = none) (hne : dx ≠ p) : T p = none ∧ Wd K Hf Hr (upd (upd H dx (.own p)) p (.ins C dx [])) (tset T p (.obj C [] [])) := by
  have hT : ∀ q, H q = none → T q = none := fun q h => by
    cases z : T q with
    | none => rfl
    | some c => obtain ⟨o, z2⟩ := Own.there (w.to q c z); rw [h] at z2; cases z2
  have ex : Ex H (upd (upd H dx (.own p)) p (.ins C dx [])) := (Ex.new hd).trans (Ex.new (by rw [upd_ne hne.symm]; exact hp))
  refine ⟨hT p hp, w.f.trans ex, w.r.trans ex, w.d, fun a c q => ?_, fun a c q => ?_, fun a C2 fs ds q dx2 xs h2 => ?_⟩
  · by_cases z : a = p
    · rw [z]; exact ⟨w.f.back hp, w.r.back hp⟩
    · rw [tset_ne z] at q; exact w.tf a c q
  · by_cases z : a = p
    · subst z; rw [tset_same] at q; cases q
      simp only [Own]
      exact ⟨dx, [], upd_same, by rw [upd_ne hne, upd_same], w.f.back hd, rfl, .nil⟩
    · rw [tset_ne z] at q; exact Own.mono (w.to a c q) (Ex.refl _) ex fun b o z z2 => z2
  · by_cases z : a = p
    · subst z; rw [upd_same] at h2; cases h2; exact ⟨w.r.back hd, w.f.back hd⟩
    · rw [tset_ne z] at q
      have o1 := w.to a _ q
      simp only [Own] at o1
      obtain ⟨dx3, xs3, h3, _⟩ := o1
      rw [ex _ _ h3] at h2; cases h2
      exact w.tx a _ _ _ q _ _ h3
theorem ev_make {TB : Th} {C : Addr} {fs : List Str} {os : List D} {S : List D → List Str → List D → Prop} (F : Dj X.prog X.w X.K X.mg X.base TB k x C S) (le : Le TB T) (hr : Room (k + 1) X.A) (ha : EvA X (e :: es) ρ T ds) (hS : S ds fs os) (hg : Gl X x := by rfl) (hdb : (x == ("__debug__" : Str)) = false := by decide) (he : starEach (e :: es) X.env = (false, eval e X.env) :: starEach es X.env := by rfl) (hpl : (backTo pos (starEach es X.env)).any (·.1) = false := by rfl) :
    Ev X (.Call (.Name x p) (e :: es) [] pos) ρ T (.obj C fs os) := by
  obtain ⟨to, f, fd, ps, hm, hk, hb, F⟩ := F
  refine PE_imp (pe_make hk F hr hg hm hb .nil pass0 ha hdb he hpl) fun σ H Q ⟨Hf, Hr, w, en, q⟩ => ⟨Hf, Hr, w, en, fun vs H2 Hf2 e2 w2 i y dx ny nd ne => ?_⟩
  have w3 := w2.hide to.noObj le
  obtain ⟨hT, w4⟩ := w3.made (C := C) ny nd ne
  show Pj X.K TB C S (.ref y :: (vs ++ [])) _ _ E0
  rw [List.append_nil]
  refine ⟨Hf2, _, y, ds, fs, os, vs, hS, hT, w4, rfl, i, fun H5 Hf5 e5 w5 => ⟨rfl, ?_⟩⟩
  have o5 := w5.to y _ tset_same
  simp only [Own] at o5
  obtain ⟨dx5, xs5, h1, h2, h3, l5, i5⟩ := o5
  have w6 := w5.freezeO tset_same h1 h2
  rw [tdel_tset hT] at w6
  have hne : y ≠ dx5 := ne_of h1 h2 (by intro z; cases z)
  have hf5 := (w5.tf y _ tset_same).1
  have e6 : Ex Hf5 (upd (upd Hf5 dx5 (.own y)) y (.ins C dx5 (fs.zip xs5))) := (Ex.new h3).trans (Ex.new (by rw [upd_ne hne]; exact hf5))
  have w7 := w2.show to.noObj to.noObj (fun _ => Iff.rfl) le (e5.trans e6) w6
  rw [over_le le] at w7
  exact q _ _ _ (e2.trans (e5.trans e6)) w7 (is_obj.mpr ⟨y, dx5, xs5, rfl, upd_same, by rw [upd_ne hne.symm, upd_same], l5, i5.mono e6⟩)
theorem lk_zip {m : Str} : ∀ {fs : List Str} {xs : List V}, m ∉ fs → (fs.zip xs).lookup m = none
  | [], _, _ => rfl
  | f :: fs, [], _ => rfl
  | f :: fs, x :: xs, h => by
    have h1 : (m == f) = false := beq_eq_false_iff_ne.mpr fun z => h (by rw [z]; exact List.mem_cons_self)
    rw [List.zip_cons_cons, List.lookup_cons, h1]
    exact lk_zip fun z => h (List.mem_cons_of_mem _ z)
/-- o.m() -/
theorem ev_meth0 {TB : Th} {C : Addr} {fs : List Str} {os : List D} {S : List D → D → Prop} {pl : Sem Bool} (F : Dm X.prog X.w X.K X.mg X.base TB k C m S) (le : Le TB T) (hr : Room k X.A) (c : Cls X.K C) (ho : Ev X o ρ T (.obj C fs os)) (hS : S [.obj C fs os] d) (hm : m ∉ fs := by decide +kernel)
    (ht : eval (.Call (.Attribute o m apos) [] [] pos) X.env = (do
      let ov ← eval o X.env
      standAt apos.atName
      let (f, first) ← holding [ov] (getMethod ov m pl)
      callWith pos f first (backTo pos (starEach [] X.env)) (backToKw pos (keywordEach [] X.env))) := by rfl) : Ev X (.Call (.Attribute o m apos) [] [] pos) ρ T d := by
  obtain ⟨to, f, fd, ps, hme, hb, F⟩ := F
  refine PE_imp (pe_meth0 ho c hme F hr hb .nil pass0 ht) fun σ H Q ⟨Hf, Hr, w, en, q⟩ => ⟨Hf, Hr, w, en, fun v H2 Hf2 e2 w2 i => ?_⟩
  obtain ⟨y, dx, xs, rfl, h1, h2, l, il⟩ := is_obj.mp i
  refine ⟨y, dx, _, rfl, w2.f _ _ h1, lk_zip hm, ?_⟩
  show Pu X.K TB S (.ref y :: ([] ++ [])) H2 Q E0
  exact ⟨Hf2, _, _, d, hS, w2.hide to.noObj le, .one i, fun v H3 Hf3 e3 w3 i3 => q v H3 Hf3 (e2.trans e3) (by have := w2.show to.noObj to.noObj (fun _ => Iff.rfl) le e3 w3; rwa [over_le le] at this) i3⟩
end
end PU
set_option Elab.async false
set_option linter.all false
set_option maxRecDepth 100000
set_option maxHeartbeats 4000000
/-! P17: expressions and statements that change what is owned. -/
namespace PU
open PySem PySem.Spec PyProof.Rows L2
def wT (X : Cx) (e : Expr) : TT := fun σ H Q => ∀ pins s, Inv X pins σ H s → wpAny (model X.prog X.w) X.A (isTrue e X.env (eval e X.env)) (TP X pins σ Q) X.xe s
theorem pt_wT {X : Cx} {e : Expr} : PT X e (wT X e) := ⟨fun pins s σ H Q I h => h pins s I⟩
def tTN (K : Fg) (ρ : Rho) (T : Th) (Post : Bool → Th → Prop) : TT := fun σ H Q => ∃ Hf Hr, Wd K Hf Hr H T ∧ EnvF K Hf σ ρ ∧ ∀ b T' H2 Hf2, Post b T' → Ex Hf Hf2 → Wd K Hf2 Hr H2 T' → Q b H2
abbrev EvTN (X : Cx) (e : Expr) (ρ : Rho) (T : Th) (Post : Bool → Th → Prop) : Prop := PT X e (tTN X.K ρ T Post)
abbrev EvWN (X : Cx) (e : Expr) (ρ : Rho) (T : Th) (Post : Bool → Th → Prop) : Prop := PW X e (tTN X.K ρ T Post)
section
variable {X : Cx} {a b c e o f tg iter : Expr} {es : List Expr} {ρ ρ' : Rho} {T T' : Th} {pos p p2 : Pos} {d d1 d2 : D} {ds : List D} {x : Str} {k : Nat} {R : Rs}
theorem evtn_of {k : Bool} {Post : Bool → Th → Prop} (h : EvT X e ρ T k) (q : Post k T) : EvTN X e ρ T Post := PT_imp h fun σ H Q ⟨Hf, Hr, w, en, z⟩ => ⟨Hf, Hr, w, en, fun H2 Hf2 e2 w2 => z k T H2 Hf2 q e2 w2⟩
theorem evn_op {op : Operator} {r : R2} {Post : D → Th → Prop} (ho : OpR X (binaryOp op) r) (ha : EvN X a ρ T fun d1 T1 => EvN X b ρ T1 fun d2 T2 => ∃ d, R2D X.K T2 r d1 d2 d ∧ Post d T2) : EvN X (.BinOp a op b pos) ρ T Post :=
  PE_imp (pe_op ho ha pe_wE) fun σ H Q ⟨Hf, Hr, w, en, q⟩ => ⟨Hf, Hr, w, en, fun d1 T1 v H2 Hf2 p e2 w2 i => fun pins s I => p.run pins s σ H2 _ I ⟨Hf2, Hr, w2, en.mono e2, fun d2 T2 v2 H3 Hf3 ⟨d, hr, hp⟩ e3 w3 i3 =>
    hr _ _ Hf3 Hr H3 w3 (i.mono e3) i3 _ fun v4 H4 Hf4 e4 w4 i4 => q d T2 v4 H4 Hf4 hp ((e2.trans e3).trans e4) w4 i4⟩⟩
theorem evtn_cmp {op : CmpOp} {r : R2} {Post : Bool → Th → Prop} (ho : OpR X (compareOp op) r) (ha : EvN X a ρ T fun d1 T1 => EvN X b ρ T1 fun d2 T2 => ∃ k, R2D X.K T2 r d1 d2 (.bl k) ∧ Post k T2) (hm : behindInMarks op b = false) : EvTN X (.Compare a [op] [b] pos) ρ T Post :=
  PT_imp (pt_cmpR ho ha pe_wE hm) fun σ H Q ⟨Hf, Hr, w, en, q⟩ => ⟨Hf, Hr, w, en, fun d1 T1 v H2 Hf2 p e2 w2 i => fun pins s I => p.run pins s σ H2 _ I ⟨Hf2, Hr, w2, en.mono e2, fun d2 T2 v2 H3 Hf3 ⟨k, hr, hp⟩ e3 w3 i3 =>
    hr _ _ Hf3 Hr H3 w3 (i.mono e3) i3 _ fun v4 H4 Hf4 e4 w4 i4 => ⟨k, is_bl.mp i4, q k T2 H4 Hf4 hp ((e2.trans e3).trans e4) w4⟩⟩⟩
theorem evn_if {Post : D → Th → Prop} {k : Bool} (hc : EvT X c ρ T k) (ha : k = true → EvN X a ρ T Post) (hb : k = false → EvN X b ρ T Post) : EvN X (.IfExp c a b pos) ρ T Post :=
  PE_imp (pe_ifExp hc (pe_wE (e := a)) (pe_wE (e := b))) fun σ H Q ⟨Hf, Hr, w, en, q⟩ => ⟨Hf, Hr, w, en, fun H2 Hf2 e2 w2 => by
    cases k with
    | true => exact fun pins s I => (ha rfl).run pins s σ H2 Q I ⟨Hf2, Hr, w2, en.mono e2, fun d T' v H3 Hf3 p e3 w3 i3 => q d T' v H3 Hf3 p (e2.trans e3) w3 i3⟩
    | false => exact fun pins s I => (hb rfl).run pins s σ H2 Q I ⟨Hf2, Hr, w2, en.mono e2, fun d T' v H3 Hf3 p e3 w3 i3 => q d T' v H3 Hf3 p (e2.trans e3) w3 i3⟩⟩
theorem evn_tup {j} {Post : D → Th → Prop} (h : EvNA X es ρ T fun ds T' => ds.length ≤ 100 ∧ Post (.tup ds) T') : EvN X (.Tuple es j pos) ρ T Post := PE_imp (pe_tup h) fun σ H Q ⟨Hf, Hr, w, en, q⟩ =>
  ⟨Hf, Hr, w, en, fun ds T' vs H2 Hf2 ⟨hl, hp⟩ e2 w2 i => ⟨Nat.le_trans (by rw [← i.len]; exact hl) (by decide), fun p hp2 => q _ T' _ _ (upd Hf2 p _) hp (e2.trans (Ex.new (w2.f.back hp2))) (w2.new hp2) (new_tup (w2.f.back hp2) i)⟩⟩
theorem evn_lst {Post : D → Th → Prop} (h : EvNA X es ρ T fun ds T' => ds.length ≤ 100 ∧ Post (.lst ds) T') : EvN X (.List es pos) ρ T Post := PE_imp (pe_lst h) fun σ H Q ⟨Hf, Hr, w, en, q⟩ =>
  ⟨Hf, Hr, w, en, fun ds T' vs H2 Hf2 ⟨hl, hp⟩ e2 w2 i => ⟨Nat.le_trans (by rw [← i.len]; exact hl) (by decide), fun p hp2 => q _ T' _ _ (upd Hf2 p _) hp (e2.trans (Ex.new (w2.f.back hp2))) (w2.new hp2) (new_lst (w2.f.back hp2) i)⟩⟩
/-- a new list, owned -/
theorem free_T {K : Fg} {Hf Hr H : Hp} {T : Th} (w : Wd K Hf Hr H T) {p : Addr} (h : H p = none) : T p = none := by
  cases z : T p with
  | none => rfl
  | some c => obtain ⟨o, z2⟩ := Own.there (w.to p c z); rw [h] at z2; cases z2
theorem evn_ownL {Post : D → Th → Prop} (h : EvNA X es ρ T fun ds T' => ds.length ≤ 100 ∧ ∀ p, T' p = none → Post (.ptr p) (tset T' p (.lst ds))) : EvN X (.List es pos) ρ T Post := PE_imp (pe_lst h) fun σ H Q ⟨Hf, Hr, w, en, q⟩ =>
  ⟨Hf, Hr, w, en, fun ds T' vs H2 Hf2 ⟨hl, hp⟩ e2 w2 i => ⟨Nat.le_trans (by rw [← i.len]; exact hl) (by decide), fun p hp2 => q _ _ _ _ Hf2 (hp p (free_T w2 hp2)) e2 (w2.own hp2 (by simp only [Own]; exact ⟨vs, upd_same, i⟩) (fun _ _ _ z => nomatch z)) (is_ptr.mpr rfl)⟩⟩
theorem evn_newL {Post : D → Th → Prop} (h : ∀ p, T p = none → Post (.ptr p) (tset T p (.lst []))) : EvN X (.List [] pos) ρ T Post := evn_ownL (evna_nil ⟨Nat.zero_le _, h⟩)
theorem evn_newD {Post : D → Th → Prop} (h : ∀ p, T p = none → Post (.ptr p) (tset T p (.dk []))) : EvN X (.Dict [] [] pos) ρ T Post := PE_imp pe_dnewK fun σ H Q ⟨Hf, Hr, w, en, q⟩ => fun p hp =>
  q _ _ _ _ Hf (h p (free_T w hp)) (Ex.refl _) (w.own hp (by simp only [Own]; exact ⟨[], upd_same, rfl, .nil⟩) (fun _ _ _ z => nomatch z)) (is_ptr.mpr rfl)
/-- f(..) pure, its arguments not -/
theorem evn_callP {TB : Th} {S : List D → D → Prop} {Post : D → Th → Prop} (F : Df X.prog X.w X.K X.mg X.base TB k x S) (hr : Room k X.A) (ha : EvNA X (e :: es) ρ T fun ds T1 => Le TB T1 ∧ ∃ d, S ds d ∧ Post d T1)
    (hg : Gl X x := by rfl) (hdb : (x == ("__debug__" : Str)) = false := by decide) (he : starEach (e :: es) X.env = (false, eval e X.env) :: starEach es X.env := by rfl) (hpl : (backTo pos (starEach es X.env)).any (·.1) = false := by rfl) : EvN X (.Call (.Name x p) (e :: es) [] pos) ρ T Post := by
  obtain ⟨to, f, fd, ps, hm, hk, hb, F⟩ := F
  refine PE_imp (pe_call F hr hg hm hk hb .nil pass0 ha hdb he hpl) fun σ H Q ⟨Hf, Hr, w, en, q⟩ => ⟨Hf, Hr, w, en, fun ds T1 vs H2 Hf2 p e2 w2 i => ?_⟩
  show Pu X.K TB S (vs ++ []) H2 Q E0
  rw [List.append_nil]
  obtain ⟨le, d, hS, hP⟩ := p
  exact ⟨Hf2, _, ds, d, hS, w2.hide to.noObj le, i, fun v H3 Hf3 e3 w3 i3 => q d _ v H3 Hf3 hP (e2.trans e3) (by have := w2.show to.noObj to.noObj (fun _ => Iff.rfl) le e3 w3; rwa [over_le le] at this) i3⟩
/-- xs[i] -/
theorem evn_ix {Post : D → Th → Prop} (ha : EvN X a ρ T fun d1 T1 => EvN X b ρ T1 fun d2 T2 => ∃ ds i d, d1 = .lst ds ∧ d2 = .int i ∧ atI ds i = some d ∧ Post d T2) (hs : PlainIx b := by exact fun _ _ => rfl) : EvN X (.Subscript a b pos) ρ T Post :=
  PE_imp (pe_ix ix_list ha pe_wE hs) fun σ H Q ⟨Hf, Hr, w, en, q⟩ => ⟨Hf, Hr, w, en, fun d1 T1 v H2 Hf2 p e2 w2 i => fun pins s I => p.run pins s σ H2 _ I ⟨Hf2, Hr, w2, en.mono e2, fun d2 T2 v2 H3 Hf3 ⟨ds, j, d, h1, h2, h3, hp⟩ e3 w3 i3 => by
    subst h1 h2
    obtain ⟨q2, xs, rfl, hq, l⟩ := is_lst.mp (i.mono e3)
    obtain ⟨y, ey, iy⟩ := isL_atI l h3
    exact ⟨q2, xs, j, y, rfl, is_int.mp i3, SqL.of (w3.f _ _ hq), ey, q d T2 y H3 Hf3 hp (e2.trans e3) w3 iy⟩⟩⟩
/-- dict(d), owned -/
theorem evn_dict {kvs : List (Key × D)} {Post : D → Th → Prop} (hm : X.mg "dict" = none) (ha : Ev X a ρ T d1) (hc : Ct T d1 (.dk kvs)) (h : ∀ p, T p = none → Post (.ptr p) (tset T p (.dk kvs))) (hg : Gl X "dict" := by rfl) (he : starEach [a] X.env = (false, eval a X.env) :: starEach [] X.env := by rfl) : EvN X (.Call (.Name "dict" p2) [a] [] pos) ρ T Post :=
  PE_imp (pe_callTy call_dictD hg hm (by decide +kernel) (eva_cons ha eva_nil he) (by decide) (by decide) he rfl) fun σ H Q ⟨Hf, Hr, w, en, q⟩ => ⟨Hf, Hr, w, en, fun vs H2 Hf2 e2 w2 i => by
    obtain ⟨y, rfl, i1⟩ := isL1 i
    obtain ⟨pd, xs, rfl, hp, l, il⟩ := ct_dk hc w2 i1
    refine ⟨pd, _, rfl, .inl hp, fun np hnp => q _ _ _ _ Hf2 (h np (free_T w2 hnp)) e2 (w2.own hnp (by simp only [Own]; exact ⟨xs, upd_same, by simpa using l, il⟩) (fun _ _ _ z => nomatch z)) (is_ptr.mpr rfl)⟩⟩
/-! ### statements -/
theorem ru_retN' (h : EvN X e ρ T R.rt) : RuS X (.Return (some e) pos) ρ T R := PS_imp (ps_ret h) fun D σ H ⟨Hf, Hr, w, en, k⟩ =>
  ⟨Hf, Hr, w, en, fun d T' v H2 Hf2 p e2 w2 i => k.2.1 d T' v H2 Hf2 p e2 w2 i⟩
theorem ru_exprN (h : EvN X e ρ T fun _ T' => R.nx ρ T') (hs : swapsWith e none pos.line X.env = pure false := by rfl) : RuS X (.Expr e pos) ρ T R := PS_imp (ps_expr h hs) fun D σ H ⟨Hf, Hr, w, en, k⟩ =>
  ⟨Hf, Hr, w, en, fun d T' v H2 Hf2 p e2 w2 i => k.1 ρ T' σ H2 Hf2 p e2 w2 (en.mono e2)⟩
theorem ru_setN (i : Nat) {px : Pos} (hN : X.N.Nodup) (h : EvN X e ρ T fun d T' => R.nx (ρ.set i (some d)) T') (hi : X.N[i]? = some x := by rfl) (hx : Loc X.env.scope x := by first | exact .inl rfl | exact .inr rfl) (hf : X.fn x = true ∨ X.env.scope.names.lookup x = some .local := by first | exact .inl rfl | exact .inr rfl)
    (hs : swapsWithSole [.Name x px] e pos.line X.env = pure false := by rfl) (hw : swappedStores [.Name x px] e X.env = pure none := by rfl) (h1 : (assignEach [.Name x px] X.env).map (·.2) = [assign (.Name x px) X.env] := by rfl) : RuS X (.Assign [.Name x px] e pos) ρ T R :=
  PS_imp (ps_asg h (pg_name hN hi hx hf) hs hw h1) fun D σ H ⟨Hf, Hr, w, en, k⟩ => ⟨Hf, Hr, w, en, fun d T' v H2 Hf2 p e2 w2 j => k.1 _ T' _ H2 Hf2 p e2 w2 ((en.mono e2).set i j)⟩
theorem ru_parN {i j : Nat} {x y : Str} {e1 e2 : Expr} {px py pt : Pos} {kt k2 pt2} (hc : X.calm = true) (hN : X.N.Nodup) (hij : i ≠ j) (h : EvNA X [e1, e2] ρ T fun ds T' => ∃ d1 d2, ds = [d1, d2] ∧ R.nx ((ρ.set i (some d1)).set j (some d2)) T') (hi : X.N[i]? = some x := by rfl) (hj : X.N[j]? = some y := by rfl)
    (hx : X.env.scope.names.lookup x = some .local := by rfl) (hy : X.env.scope.names.lookup y = some .local := by rfl)
    (hw : swappedStores [.Tuple [.Name x px, .Name y py] kt pt] (.Tuple [e1, e2] k2 pt2) X.env = pure (some [x, y]) := by rfl)
    (hs : swapsWithSole [.Tuple [.Name x px, .Name y py] kt pt] (.Tuple [e1, e2] k2 pt2) pos.line X.env = pure false := by rfl) : RuS X (.Assign [.Tuple [.Name x px, .Name y py] kt pt] (.Tuple [e1, e2] k2 pt2) pos) ρ T R :=
  PS_imp (ps_par hc hN hi hj hij hx hy h hw hs) fun D σ H ⟨Hf, Hr, w, en, q⟩ => ⟨Hf, Hr, w, en, fun ds T' vs H2 Hf2 ⟨d1, d2, ed, hp⟩ e2 w2 il => by
    subst ed
    obtain ⟨v1, v2, rfl, k1, k2⟩ := isL2 il
    exact ⟨v1, v2, rfl, q.1 _ _ _ H2 Hf2 hp e2 w2 (((en.mono e2).set _ k1).set _ k2)⟩⟩
theorem ru_par3N {i j l : Nat} {x y z : Str} {e1 e2 e3 : Expr} {px py pz pt : Pos} {kt k2 pt2} (hc : X.calm = true) (hN : X.N.Nodup) (hij : i ≠ j) (hil : i ≠ l) (hjl : j ≠ l) (h : EvNA X [e1, e2, e3] ρ T fun ds T' => ∃ d1 d2 d3, ds = [d1, d2, d3] ∧ R.nx (((ρ.set i (some d1)).set j (some d2)).set l (some d3)) T') (hi : X.N[i]? = some x := by rfl) (hj : X.N[j]? = some y := by rfl) (hl : X.N[l]? = some z := by rfl)
    (hx : X.env.scope.names.lookup x = some .local := by rfl) (hy : X.env.scope.names.lookup y = some .local := by rfl) (hz : X.env.scope.names.lookup z = some .local := by rfl)
    (hw : swappedStores [.Tuple [.Name x px, .Name y py, .Name z pz] kt pt] (.Tuple [e1, e2, e3] k2 pt2) X.env = pure (some [x, y, z]) := by rfl)
    (hs : swapsWithSole [.Tuple [.Name x px, .Name y py, .Name z pz] kt pt] (.Tuple [e1, e2, e3] k2 pt2) pos.line X.env = pure false := by rfl) : RuS X (.Assign [.Tuple [.Name x px, .Name y py, .Name z pz] kt pt] (.Tuple [e1, e2, e3] k2 pt2) pos) ρ T R :=
  PS_imp (ps_par3 hc hN hi hj hl hij hil hjl hx hy hz h hw hs) fun D σ H ⟨Hf, Hr, w, en, q⟩ => ⟨Hf, Hr, w, en, fun ds T' vs H2 Hf2 ⟨d1, d2, d3, ed, hp⟩ e2 w2 il => by
    subst ed
    simp only [IsL] at il
    obtain ⟨v1, r, rfl, k1, v2, r2, rfl, k2, v3, r3, rfl, k3, rfl⟩ := il
    exact ⟨v1, v2, v3, rfl, q.1 _ _ _ H2 Hf2 hp e2 w2 ((((en.mono e2).set _ k1).set _ k2).set _ k3)⟩⟩
theorem ru_ifN {ss1 ss2 : List Stmt} (hc : EvTN X c ρ T fun k T' => (k = true → Ru X ss1 ρ T' R) ∧ (k = false → Ru X ss2 ρ T' R)) : RuS X (.If c ss1 ss2 pos) ρ T R :=
  PS_imp (ps_if hc (pss_wS (ss := ss1)) (pss_wS (ss := ss2))) fun D σ H ⟨Hf, Hr, w, en, q⟩ => ⟨Hf, Hr, w, en, fun k T' H2 Hf2 ⟨h1, h2⟩ e2 w2 => by
    cases k with
    | true => exact fun pins s I => (h1 rfl).run pins s σ H2 D I ⟨Hf2, Hr, w2, en.mono e2, q.mono e2⟩
    | false => exact fun pins s I => (h2 rfl).run pins s σ H2 D I ⟨Hf2, Hr, w2, en.mono e2, q.mono e2⟩⟩
/-- a test that is an expression's bool -/
theorem evtn_val {Post : Bool → Th → Prop} (h : EvN X e ρ T fun d T' => ∃ k, d = .bl k ∧ Post k T') (he : ∀ whole, isTrue e X.env whole = (do let v ← whole; standAt e.pos; holding [v] (truthy v)) := by intro _; rfl) : EvTN X e ρ T Post :=
  PT_imp (pt_val h he) fun σ H Q ⟨Hf, Hr, w, en, q⟩ => ⟨Hf, Hr, w, en, fun d T' v H2 Hf2 ⟨k, ed, hp⟩ e w2 i => ⟨k, by subst ed; exact is_bl.mp i, q k T' H2 Hf2 hp e w2⟩⟩
theorem evtn_not {Post : Bool → Th → Prop} (ha : EvTN X a ρ T fun k T' => Post (!k) T') : EvTN X (.UnaryOp .Not a pos) ρ T Post := PT_imp (pt_not ha) fun σ H Q ⟨Hf, Hr, w, en, q⟩ => ⟨Hf, Hr, w, en, fun b T' H2 Hf2 p e w2 => q (!b) T' H2 Hf2 p e w2⟩
/-! ### a purse is opened -/
theorem ru_open {ss : List Stmt} {pa : Addr} {n : Nat} (hp : T pa = some (.prs n)) (h : ∀ u v c l : Int, 0 ≤ u ∧ u < 2 ^ 2000 ∧ 0 ≤ v ∧ v < 2147483629 ∧ 0 ≤ c ∧ c ≤ n ∧ 0 ≤ l ∧ l < 100 → Ru X ss ρ (tset T pa (.lst [.int u, .int v, .int c, .int l])) R) : Ru X ss ρ T R :=
  ⟨fun pins s σ H D I ⟨Hf, Hr, w, en, q⟩ => by
    have o1 := w.to _ _ hp
    simp only [Own] at o1
    obtain ⟨xs, hx, u, v, c, l, rfl, hh⟩ := o1
    refine (h u v c l hh).run pins s σ H D I ⟨Hf, Hr, ?_, en, q⟩
    refine ⟨w.f, w.r, w.d, fun a c2 z => ?_, fun a c2 z => ?_, fun a C fs ds z => ?_⟩
    · by_cases e : a = pa
      · subst e; exact w.tf _ _ hp
      · rw [tset_ne e] at z; exact w.tf _ _ z
    · by_cases e : a = pa
      · subst e; rw [tset_same] at z; cases z
        simp only [Own]
        exact ⟨_, hx, IsL.of_ints [u, v, c, l]⟩
      · rw [tset_ne e] at z; exact w.to _ _ z
    · by_cases e : a = pa
      · subst e; rw [tset_same] at z; cases z
      · rw [tset_ne e] at z; exact w.tx a C fs ds z⟩
/-- and closed -/
theorem Wd.close {K : Fg} {Hf Hr H : Hp} {T : Th} {pa : Addr} {n : Nat} {u v c l : Int} (w : Wd K Hf Hr H T) (hp : T pa = some (.lst [.int u, .int v, .int c, .int l])) (hh : 0 ≤ u ∧ u < 2 ^ 2000 ∧ 0 ≤ v ∧ v < 2147483629 ∧ 0 ≤ c ∧ c ≤ n ∧ 0 ≤ l ∧ l < 100) : Wd K Hf Hr H (tset T pa (.prs n)) := by
  have o1 := w.to _ _ hp
  simp only [Own] at o1
  obtain ⟨xs, hx, il⟩ := o1
  have ex := IsL.ints (ns := [u, v, c, l]) il
  refine ⟨w.f, w.r, w.d, fun a c2 z => ?_, fun a c2 z => ?_, fun a C fs ds z => ?_⟩
  · by_cases e : a = pa
    · subst e; exact w.tf _ _ hp
    · rw [tset_ne e] at z; exact w.tf _ _ z
  · by_cases e : a = pa
    · subst e; rw [tset_same] at z; cases z
      simp only [Own]
      exact ⟨_, hx, u, v, c, l, ex, hh⟩
    · rw [tset_ne e] at z; exact w.to _ _ z
  · by_cases e : a = pa
    · subst e; rw [tset_same] at z; cases z
    · rw [tset_ne e] at z; exact w.tx a C fs ds z
end
end PU
set_option Elab.async false
set_option linter.all false
set_option maxRecDepth 100000
set_option maxHeartbeats 4000000
/-! P18: comprehensions whose items change what is owned; x = [..]. -/
namespace PU
open PySem PySem.Spec PyProof.Rows L2
/-- a list comprehension comes to Post -/
def LcH (X : Cx) (elt tg iter : Expr) (ifs : List Expr) (scope : Scope) (ρ : Rho) (T : Th) (Post : D → Th → Prop) : Prop :=
  ∃ (own : List (Str × Nat)) (wi : TI) (g : TG) (tt : TT) (te : TE), X.calm = true ∧ X.N.Nodup ∧ PI X tg iter wi ∧ BlkOk X.N X.env.scope scope own ∧
    (∀ s H C cl fp, PG (BX X s H scope cl C fp) tg g) ∧ (∀ s H C cl fp, PTs (BX X s H scope cl C fp) ifs tt) ∧ (∀ s H C cl fp, PE (BX X s H scope cl C fp) elt te) ∧ (∀ x, foldedSetIterable iter X.env x = pure x) ∧
    ∀ σ H Q, tN X.K ρ T Post σ H Q → tLc wi g tt te (own.map (·.2)) σ H Q
section
variable {X : Cx} {elt tg iter e : Expr} {ifs : List Expr} {scope : Scope} {pos spos py : Pos} {ρ : Rho} {T : Th} {Post : D → Th → Prop} {R : Rs} {y : Str}
theorem evn_lcH (h : LcH X elt tg iter ifs scope ρ T Post) : EvN X (.ListComp elt [⟨tg, iter, ifs, 0⟩] scope pos) ρ T Post := by
  obtain ⟨own, wi, g, tt, te, hc, hN, hi, ok, hg, ht, he, hs, k⟩ := h
  exact PE_imp (pe_lc hc hN hi ok (fun s H C cl fp => hg s H C cl fp) (fun s H C cl fp => ht s H C cl fp) (fun s H C cl fp => he s H C cl fp) hs) k
theorem ru_setLc (i : Nat) (h : LcH X elt tg iter ifs scope ρ T fun d T' => R.nx (ρ.set i (some d)) T') (hy : X.N[i]? = some y := by rfl) (hyl : X.env.scope.names.lookup y = some .local := by rfl)
    (hsw : swapsWith (.ListComp elt [⟨tg, iter, ifs, 0⟩] scope pos) (some (.Name y py)) spos.line X.env = pure true := by rfl) : RuS X (.Assign [.Name y py] (.ListComp elt [⟨tg, iter, ifs, 0⟩] scope pos) spos) ρ T R := by
  obtain ⟨own, wi, g, tt, te, hc, hN, hi, ok, hg, ht, he, hs, k⟩ := h
  exact PS_imp (ps_setLc hc hN hy hyl hsw hi ok (fun s H C cl fp => hg s H C cl fp) (fun s H C cl fp => ht s H C cl fp) (fun s H C cl fp => he s H C cl fp) hs) fun D σ H ⟨Hf, Hr, w, en, q⟩ => k σ H _ ⟨Hf, Hr, w, en, fun d T' v H2 Hf2 p e2 w2 i2 => q.1 _ T' _ H2 Hf2 p e2 w2 ((en.mono e2).set i i2)⟩
theorem lcH_det {α : Type} (xs : List α) (φ : α → D) (bf : α → Bool) (g : α → D) (own : List (Str × Nat)) (ρ' : α → Rho) (js : List Nat) (hc : X.calm = true) (hN : X.N.Nodup) (hi : EvI X tg iter ρ T (xs.map φ)) (ok : blkC X.N X.env.scope scope own = true) (hl : xs.length ≤ 1000000) (hjs : ∀ j ∈ js, j ∈ own.map (·.2))
    (hg : ∀ x, x ∈ xs → ∀ s H C cl fp, EvG (BX X s H scope cl C fp) tg (φ x) (wipeR ρ (own.map (·.2))) (ρ' x) js)
    (ht : ∀ x, x ∈ xs → ∀ s H C cl fp, EvTs (BX X s H scope cl C fp) ifs (ρ' x) T (bf x))
    (he : ∀ x, x ∈ xs → bf x = true → ∀ s H C cl fp, Ev (BX X s H scope cl C fp) elt (ρ' x) T (g x)) (hp : Post (.lst ((xs.filter bf).map g)) T) (hs : ∀ x, foldedSetIterable iter X.env x = pure x := by intro _; rfl) : LcH X elt tg iter ifs scope ρ T Post :=
  ⟨own, _, fun v σ H Q => ∃ x ∈ xs, tG X.K (φ x) (wipeR ρ (own.map (·.2))) (ρ' x) js v σ H Q, fun σ H Q => ∃ x ∈ xs, tT X.K (ρ' x) T (bf x) σ H Q, fun σ H Q => ∃ x ∈ xs, bf x = true ∧ tE X.K (ρ' x) T (g x) σ H Q,
    hc, hN, hi, blkOk_by ok, fun s H C cl fp => ⟨fun pins s' σ H' v u Q I r ⟨x, m, q⟩ => (hg x m s H C cl fp).run pins s' σ H' v u Q I r q⟩, fun s H C cl fp => ⟨fun pins s' σ H' Q I ⟨x, m, q⟩ => (ht x m s H C cl fp).run pins s' σ H' Q I q⟩, fun s H C cl fp => ⟨fun pins s' σ H' Q I ⟨x, m, hb, q⟩ => (he x m hb s H C cl fp).run pins s' σ H' Q I q⟩, hs,
    fun σ H Q ⟨Hf, Hr, w, en, q⟩ => tLc_D xs φ bf g own ρ' js hl hjs (fun x v σ H Q m q => ⟨x, m, q⟩) (fun x σ H Q m q => ⟨x, m, q⟩) (fun x σ H Q m hb q => ⟨x, m, hb, q⟩) ⟨Hf, Hr, w, en, fun v H2 Hf2 e2 w2 i2 => q _ T v H2 Hf2 hp e2 w2 i2⟩⟩
def gNx {α : Type} (X : Cx) (xs : List α) (φ : α → D) (ρ : Rho) (ρ' : α → Rho) (js : List Nat) : TG := fun v σ H Q => ∃ x ∈ xs, tG X.K (φ x) ρ (ρ' x) js v σ H Q
def ttNx (X : Cx) (scope : Scope) (ifs : List Expr) : TT := fun σ H Q => ∃ ρ1 T1 b, (∀ s H C cl fp, EvTs (BX X s H scope cl C fp) ifs ρ1 T1 b) ∧ tT X.K ρ1 T1 b σ H Q
def teNx (X : Cx) (scope : Scope) (elt : Expr) : TE := fun σ H Q => ∃ ρ1 T1 P1, (∀ s H C cl fp, EvN (BX X s H scope cl C fp) elt ρ1 T1 P1) ∧ tN X.K ρ1 T1 P1 σ H Q
/-- the items change what is owned: J tells, by the turn, the items so far and what is owned -/
theorem lcH_N {α : Type} (xs : List α) (φ : α → D) (fz : Bool) (own : List (Str × Nat)) (ρ' : α → Rho) (js : List Nat) (J : Nat → List D → Th → Prop) (hc : X.calm = true) (hN : X.N.Nodup) (hi : EvI X tg iter ρ T (xs.map φ)) (ok : blkC X.N X.env.scope scope own = true) (hl : xs.length ≤ 1000000) (hjs : ∀ j ∈ js, j ∈ own.map (·.2))
    (h0 : J 0 [] T) (hd : ∀ i acc T', J i acc T' → ∀ a, T' a = none ↔ T a = none)
    (hg : ∀ x, x ∈ xs → ∀ s H C cl fp, EvG (BX X s H scope cl C fp) tg (φ x) (wipeR ρ (own.map (·.2))) (ρ' x) js)
    (hstep : ∀ i x acc T', xs[i]? = some x → J i acc T' → ∃ b, (∀ s H C cl fp, EvTs (BX X s H scope cl C fp) ifs (ρ' x) T' b) ∧ (b = true → ∀ s H C cl fp, EvN (BX X s H scope cl C fp) elt (ρ' x) T' fun d T2 => J (i + 1) (acc ++ [d]) T2) ∧ (b = false → J (i + 1) acc T'))
    (hp : ∀ acc T', J xs.length acc T' → if fz = true then Post (.lst acc) T' else ∀ p, T' p = none → Post (.ptr p) (tset T' p (.lst acc))) (hs : ∀ x, foldedSetIterable iter X.env x = pure x := by intro _; rfl) : LcH X elt tg iter ifs scope ρ T Post := by
  refine ⟨own, _, gNx X xs φ (wipeR ρ (own.map (·.2))) ρ' js, ttNx X scope ifs, teNx X scope elt,
    hc, hN, hi, blkOk_by ok, fun s H C cl fp => ⟨fun pins s' σ H' v u Q I r ⟨x, m, q⟩ => (hg x m s H C cl fp).run pins s' σ H' v u Q I r q⟩, fun s H C cl fp => ⟨fun pins s' σ H' Q I ⟨_, _, _, m, q⟩ => (m s H C cl fp).run pins s' σ H' Q I q⟩, fun s H C cl fp => ⟨fun pins s' σ H' Q I ⟨_, _, _, m, q⟩ => (m s H C cl fp).run pins s' σ H' Q I q⟩, hs, fun σ H Q ⟨Hf, Hr, w, en, q⟩ => ?_⟩
  refine ⟨Hf, Hr, w, en, fun It H1 Hf1 e1 w1 it D hD => ?_⟩
  obtain ⟨G, Y, wk, hG, hY⟩ := it.ex
  rw [List.length_map] at wk hY
  have hfD : Hf1 D = none := w1.f.back hD
  have hrD : Hr D = none := w1.r.back hD
  have hTD : T D = none := free_T w1 hD
  have en1 := en.mono e1
  refine lc_it (g := gNx X xs φ (wipeR ρ (own.map (·.2))) ρ' js) (tt := ttNx X scope ifs) (te := teNx X scope elt) wk (fun i H' => ∃ Hf' acc vs T', J i acc T' ∧ Ex Hf1 Hf' ∧ Wd X.K Hf' (upd Hr D (.lst vs)) H' T' ∧ IsL X.K Hf' acc vs ∧ acc.length ≤ i) ⟨Hf1, [], [], T, h0, Ex.refl _, w1.held hD, .nil, Nat.le_refl _⟩ (fun i H' _ ⟨Hf', acc, vs, T', _, e', w', _⟩ => hG H' (e'.trans w'.f)) (fun i v H' H'' hlt ⟨Hf', acc, vs, T', j, e', w', il, hal⟩ yy => ?_) (fun H' ⟨Hf', acc, vs, T', j, e', w', il, hal⟩ => ?_)
  · obtain ⟨d, Hf2, hd2, e2, w2, k⟩ := hY i H' v H'' Hf' _ T' hlt e' w' yy
    have hx : xs[i]? = some xs[i] := List.getElem?_eq_getElem hlt
    have hd' : φ xs[i] = d := by
      rw [List.getElem?_map, hx] at hd2
      exact Option.some.inj hd2
    subst hd'
    obtain ⟨b, ht, he, hn⟩ := hstep i _ acc T' hx j
    refine ⟨_, List.getElem_mem hlt, Hf2, w2.f, (en1.mono (e'.trans e2)).wipe _, k, fun σ2 en2 wp => ⟨by rw [wp _ hjs]; exact wipe_wipe _ _, _, _, _, ht, Hf2, _, w2, en2, fun H3 Hf3 e3 w3 => ?_⟩⟩
    cases b with
    | true =>
      refine ⟨_, _, _, he rfl, Hf3, _, w3, en2.mono e3, fun d T2 v4 H4 Hf4 j4 e4 w4 k4 => ⟨vs, w4.r _ _ upd_same, Nat.lt_of_le_of_lt (show vs.length ≤ 1000000 by rw [← il.len]; omega) (by decide), Hf4, acc ++ [d], vs ++ [v4], T2, j4, (((e'.trans e2).trans e3).trans e4), Wd.bump ((hd _ _ _ j4 D).mpr hTD) (by intro x; exact fun z => nomatch z) w4, (il.mono ((e2.trans e3).trans e4)).app (.one k4), by rw [List.length_append]; simp; omega⟩⟩
    | false => exact ⟨Hf3, acc, vs, T', hn rfl, (e'.trans e2).trans e3, w3, il.mono (e2.trans e3), by omega⟩
  · have hfn : Hf' D = none := by
      cases z : Hf' D with
      | none => rfl
      | some u => have := w'.d D u z; rw [upd_same] at this; cases this
    have hT'D := (hd _ _ _ j D).mpr hTD
    have hpp := hp acc T' j
    cases fz with
    | true => exact q _ T' _ _ _ hpp ((e1.trans e').trans (Ex.new hfn)) (w'.take hrD) (new_lst hfn il)
    | false =>
      refine q _ _ _ _ Hf' (hpp D hT'D) (e1.trans e') ?_ (is_ptr.mpr rfl)
      have hHD : H' D = some (.lst vs) := w'.r _ _ upd_same
      refine ⟨w'.f, fun a o h => w'.r a o (by rw [upd_ne (ne_of_none h hrD)]; exact h), fun a o h => ?_, fun a c z => ?_, fun a c z => ?_, fun a C fs ds z dx xs2 h2 => ?_⟩
      · have := w'.d a o h
        by_cases e : a = D
        · rw [e]; exact hrD
        · rwa [upd_ne e] at this
      · by_cases e : a = D
        · rw [e]; exact ⟨hfn, hrD⟩
        · rw [tset_ne e] at z
          have := w'.tf a c z
          rw [upd_ne e] at this; exact this
      · by_cases e : a = D
        · subst e; rw [tset_same] at z; cases z
          simp only [Own]
          exact ⟨vs, hHD, il⟩
        · rw [tset_ne e] at z; exact w'.to a c z
      · by_cases e : a = D
        · subst e; rw [tset_same] at z; cases z
        · rw [tset_ne e] at z
          have := w'.tx a C fs ds z dx xs2 h2
          have o1 := w'.to a _ z
          simp only [Own] at o1
          obtain ⟨dx3, xs3, h3, h4, _⟩ := o1
          rw [h2] at h3; cases h3
          have hne : dx ≠ D := fun e5 => by rw [e5, hHD] at h4; cases h4
          rw [upd_ne hne] at this; exact this
end
end PU
set_option Elab.async false
set_option linter.all false
set_option maxRecDepth 100000
set_option maxHeartbeats 4000000
/-! P19: a def whose code object is known (it makes a lambda). -/
namespace PU
open PySem PySem.Spec PyProof.Rows L2
structure FunC (K : Fg) (x qual : Str) (st : Stmt) (f : Addr) (fd : FuncData) (c : Addr) : Prop where
  ex : ∃ (oc : Value) (od : Option Addr) (kV doc pm : Value) (an : Option Addr) (ct : Value) (osl : Array (Option Value)),
    fd = PySem.W.fnOf x qual (defArgs st) (defBody st) (defScope st) .none kV doc pm an (.ref c) ct ∧ K.lookup f = some ⟨oc, od, .func fd, osl⟩ ∧ PySem.W.codeIn K (.ref c) qual = true
  kp : PySem.W.keepIn K (.ref f) = true
structure AtC (K : Fg) (mg : Str → Option Value) (x : Str) (st : Stmt) (ps : List Str) (c : Addr) : Prop where
  ex : ∃ f fd, FunC K x x st f fd c ∧ mg x = some (.ref f) ∧ Binds K fd ps []
section
variable {P : Program} {w : World} {K : Fg} {mg : Str → Option Value} {base : Heap} {TB : Th}
theorem mk_dfC {x : Str} {st : Stmt} {N ps : List Str} {k : Nat} {c : Addr} {S : List D → D → Prop} (to : TabOnly TB) (a : AtC K mg x st ps c) (Sc : FnScope N ps (defScope st)) (hl : ∀ ds d, S ds d → ds.length = ps.length)
    (h : ∀ f A outer s H E ds d, Room k (BodyX P w K mg base N x st f (.ref c) A outer s H E).A → S ds d → Ru (BodyX P w K mg base N x st f (.ref c) A outer s H E) (defBody st) (rho0 N ds) TB (Rd0 TB d)) : Df P w K mg base TB (k + 1) x S := by
  obtain ⟨f, fd, F, hm, hb⟩ := a.ex
  obtain ⟨oc, od, kV, doc, pm, an, ct, osl, rfl, lk, hcd⟩ := F.ex
  refine ⟨to, f, _, ps, hm, F.kp, hb, fn_of lk hcd Sc (fun vs H Q E ⟨Hf, Hr, ds, d, hS, w, il, q⟩ => by rw [← il.len]; exact hl ds d hS) fun A outer s H vs Q E hr ⟨Hf, Hr, ds, d, hS, wd, il, q⟩ => ?_⟩
  exact ⟨_, PSs.nox (h f A outer s H E ds d hr hS), Hf, Hr, wd, env0 il, fun ρ' T' σ' H' Hf' ⟨e, eT⟩ e' w' en' => by subst eT e; exact q .non H' Hf' e' w' (is_non.mpr rfl), fun d' T' v H' Hf' ⟨e, eT⟩ e' w' i' => by subst eT e; exact q v H' Hf' e' w' i', fun _ _ _ _ _ z => z.elim, fun _ _ _ _ _ z => z.elim⟩
end
end PU
set_option Elab.async false
set_option linter.all false
set_option maxRecDepth 100000
set_option maxHeartbeats 4000000
/-! P20: numbers of both kinds: a Euclidean ring each. -/
namespace PU
open PySem PySem.Spec PyProof.Rows L2
/-- a kind of numbers -/
class Kd (R : Type) extends Lean.Grind.CommRing R where
  kind : Str
  num : R → Int
  quo : R → R → R
  rem : R → R → R
  of : Nat → R
  size : R → Nat
  inj : ∀ {x y : R}, num x = num y → x = y
  num0 : num 0 = 0
  num1 : num 1 = 1
  num_of : ∀ n : Nat, num (of n) = (n : Int)
  num_neg : ∀ x : R, num x < 0 → 0 < num (-x)
  rem0 : ∀ x : R, rem x 0 = x
  quo_rem : ∀ (x y : R), 0 < num y → x = quo x y * y + rem x y
  rem_nonneg : ∀ (x y : R), 0 < num y → 0 ≤ num (rem x y)
  rem_lt : ∀ (x y : R), 0 < num y → num (rem x y) < num y
  rem_add : ∀ (x q y : R), 0 < num y → rem (x + q * y) y = rem x y
  rem_fix : ∀ (x y : R), 0 < num y → (rem x y = x ↔ 0 ≤ num x ∧ num x < size y)
  size_mul : ∀ (x y : R), 0 < num x → 0 < num y → 0 < num (x * y) → size (x * y) = size x * size y
abbrev bitsOf (i : Int) : Nat := Builtin.Int.intBits i
theorem bits_nat (n : Nat) : bitsOf (n : Int) = bl n := by
  unfold bitsOf Builtin.Int.intBits bl
  rw [Int.natAbs_natCast]
  by_cases h : n = 0
  · subst h; rfl
  · rw [if_neg h]
    rw [if_neg (by simpa using h)]
instance : Kd Int where
  toCommRing := inferInstance
  kind := "hours"
  num x := x
  quo x y := x / y
  rem x y := x % y
  of n := n
  size y := y.toNat
  inj h := h
  num0 := rfl
  num1 := rfl
  num_of _ := rfl
  num_neg x h := by show 0 < -x; omega
  rem0 x := Int.emod_zero x
  quo_rem x y h := by rw [Int.mul_comm]; exact (Int.mul_ediv_add_emod x y).symm
  rem_nonneg x y h := Int.emod_nonneg x (by omega)
  rem_lt x y h := Int.emod_lt_of_pos x h
  rem_add x q y h := Int.add_mul_emod_self_right x q y
  rem_fix x y h := by
    refine ⟨fun e => ?_, fun ⟨h1, h2⟩ => Int.emod_eq_of_lt h1 (by omega)⟩
    rw [← e]
    exact ⟨Int.emod_nonneg x (by omega), by have := Int.emod_lt_of_pos x h; omega⟩
  size_mul x y h1 h2 _ := Int.toNat_mul (by omega) (by omega)
theorem bl_mul {x y : Nat} (hx : 0 < x) (hy : 0 < y) : bl (clm x y) = bl x + bl y - 1 := by
  have h1 := bl_pos hx
  have h2 := bl_pos hy
  have key : ∀ k, bl (mulF x y k) ≤ bl x + k - 1 ∨ k = 0 := by
    intro k
    induction k with
    | zero => exact .inr rfl
    | succ k ih =>
      refine .inl ?_
      simp only [mulF]
      have a1 := bl_xor_le (mulF x y k) (if y.testBit k then x <<< k else 0)
      have a2 : bl (if y.testBit k then x <<< k else 0) ≤ bl x + k := by
        split
        · rw [bl_shift hx]; exact Nat.le_refl _
        · exact Nat.zero_le _
      rcases ih with z | z
      · omega
      · subst z
        have : bl (mulF x y 0) = 0 := rfl
        omega
  have e : clm x y = mulF x y (bl y - 1) ^^^ x <<< (bl y - 1) := by
    rw [clm_eq x y (k := (bl y - 1) + 1) (by rw [show bl y - 1 + 1 = bl y by omega]; exact lt_bl y)]
    simp only [mulF]
    rw [bl_top hy]; rfl
  have t : (clm x y).testBit (bl x - 1 + (bl y - 1)) = true := by
    rw [e, Nat.testBit_xor, Nat.testBit_shiftLeft, Nat.add_sub_cancel, bl_top hx]
    rw [show (mulF x y (bl y - 1)).testBit (bl x - 1 + (bl y - 1)) = false from by
      rcases key (bl y - 1) with z | z
      · exact bit_over (by omega)
      · rw [z]; exact Nat.zero_testBit _]
    simp
  have a := bl_of_bit t
  have b : bl (clm x y) ≤ bl x + bl y - 1 := by
    have := key (bl y)
    rw [show clm x y = mulF x y (bl y) from rfl]
    omega
  omega
instance : Kd Pol where
  toCommRing := inferInstance
  kind := "bits"
  num x := x.val
  quo x y := ⟨dvq x.val y.val⟩
  rem x y := ⟨dvr x.val y.val⟩
  of n := ⟨n⟩
  size y := 2 ^ (bl y.val - 1)
  inj {x y} h := Pol.ext (by have h' : ((x.val : Nat) : Int) = (y.val : Nat) := h; omega)
  num0 := rfl
  num1 := rfl
  num_of _ := rfl
  num_neg x h := by omega
  rem0 x := Pol.ext rfl
  quo_rem x y h := Pol.ext (by
    rw [Pol.add_val, Pol.mul_val]
    exact (dv_spec x.val (y := y.val) (by omega)).2)
  rem_nonneg x y h := by omega
  rem_lt x y h := by
    have h' : 0 < y.val := by omega
    have a := (dv_spec x.val h').1
    have b := two_bl_le h'
    have c := lt_bl (dvr x.val y.val)
    have d := Nat.pow_le_pow_right (show 0 < 2 by decide) (show bl (dvr x.val y.val) ≤ bl y.val - 1 by omega)
    show ((dvr x.val y.val : Nat) : Int) < (y.val : Int)
    omega
  rem_add x q y h := Pol.ext (by
    have h' : 0 < y.val := by omega
    obtain ⟨a, b⟩ := dv_spec x.val h'
    show dvr (x.val ^^^ clm q.val y.val) y.val = dvr x.val y.val
    refine dvr_uniq (q := dvq x.val y.val ^^^ q.val) h' a ?_
    rw [clm_xor_left, Nat.xor_assoc, Nat.xor_comm (clm q.val y.val), ← Nat.xor_assoc, ← b])
  rem_fix x y h := by
    have h' : 0 < y.val := by omega
    have key : dvr x.val y.val = x.val ↔ bl x.val < bl y.val := by
      refine ⟨fun e => ?_, fun k => ?_⟩
      · rw [← e]; exact (dv_spec x.val h').1
      · exact dvr_uniq (q := 0) h' k (by rw [clm_zero_left, Nat.zero_xor])
    have hp := bl_pos h'
    constructor
    · intro e
      have e' : dvr x.val y.val = x.val := congrArg Pol.val e
      have := key.mp e'
      have c := lt_bl x.val
      have d := Nat.pow_le_pow_right (show 0 < 2 by decide) (show bl x.val ≤ bl y.val - 1 by omega)
      exact ⟨by omega, by omega⟩
    · rintro ⟨_, k⟩
      have k' : x.val < 2 ^ (bl y.val - 1) := by omega
      have := bl_le k'
      exact Pol.ext (key.mpr (by omega))
  size_mul x y h1 h2 h3 := by
    have h1' : 0 < x.val := by omega
    have h2' : 0 < y.val := by omega
    show 2 ^ (bl (clm x.val y.val) - 1) = 2 ^ (bl x.val - 1) * 2 ^ (bl y.val - 1)
    have a := bl_pos h1'
    have b := bl_pos h2'
    rw [bl_mul h1' h2', ← Nat.pow_add]
    congr 1; omega
section
variable (R : Type) [Kd R]
def nI (x : R) : D := .int (Kd.num x)
def sSub (ds : List D) (d : D) : Prop := ∃ x y : R, ds = [.str (Kd.kind R), nI R x, nI R y] ∧ d = nI R (x - y)
def sAdd (ds : List D) (d : D) : Prop := ∃ x y : R, ds = [.str (Kd.kind R), nI R x, nI R y] ∧ d = nI R (x + y)
def sNeg (ds : List D) (d : D) : Prop := ∃ x : R, ds = [.str (Kd.kind R), nI R x] ∧ d = nI R (-x)
def sMul (ds : List D) (d : D) : Prop := ∃ x y : R, ds = [.str (Kd.kind R), nI R x, nI R y] ∧ bitsOf (Kd.num x) ≤ 2 ^ 25 ∧ bitsOf (Kd.num y) ≤ 2 ^ 25 ∧ d = nI R (x * y)
def sDiv (ds : List D) (d : D) : Prop := ∃ x y : R, ds = [.str (Kd.kind R), nI R x, nI R y] ∧ bitsOf (Kd.num x) ≤ 2 ^ 25 ∧ 0 < Kd.num y ∧ bitsOf (Kd.num y) ≤ 9000 ∧ d = .tup [nI R (Kd.quo x y), nI R (Kd.rem x y)]
def sRem (ds : List D) (d : D) : Prop := ∃ x y : R, ds = [.str (Kd.kind R), nI R x, nI R y] ∧ bitsOf (Kd.num x) ≤ 2 ^ 25 ∧ 0 ≤ Kd.num y ∧ bitsOf (Kd.num y) ≤ 9000 ∧ d = nI R (Kd.rem x y)
def sQuo (ds : List D) (d : D) : Prop := ∃ x y : R, ds = [.str (Kd.kind R), nI R x, nI R y] ∧ bitsOf (Kd.num x) ≤ 2 ^ 25 ∧ 0 < Kd.num y ∧ bitsOf (Kd.num y) ≤ 9000 ∧ d = nI R (Kd.quo x y)
def sMult (ds : List D) (d : D) : Prop := ∃ x y : R, ds = [.str (Kd.kind R), nI R x, nI R y] ∧ bitsOf (Kd.num x) ≤ 2 ^ 25 ∧ 0 ≤ Kd.num y ∧ bitsOf (Kd.num y) ≤ 9000 ∧ d = .bl (decide (Kd.num (Kd.rem x y) = 0))
end
end PU
set_option Elab.async false
set_option linter.all false
set_option maxRecDepth 100000
set_option maxHeartbeats 4000000
/-! W1: the numbers of both kinds, as the program reckons with them. -/
namespace PU
open PySem PySem.Spec PyProof.Rows L2
def top (i : Nat) : Stmt := PySem.Challenge.pw_hourscales_k98_whole_rows_of_all_totals.main.body.getD i (.Pass ⟨0, 0, 0, 0⟩)
abbrev kno : List Str := ["kind", "number", "by"]
abbrev koo : List Str := ["kind", "one", "other"]
section
variable {P : Program} {w : World} {K : Fg} {mg : Str → Option Value} {base : Heap} {TB : Th}
theorem hI : decide (Kd.kind Int = ("hours" : Str)) = true := by decide
theorem hP : decide (Kd.kind Pol = ("hours" : Str)) = false := by decide
theorem xor_num (x y : Pol) : Builtin.bitXor (Kd.num x) (Kd.num y) = Kd.num (x + y) := by
  show Builtin.bitXor (x.val : Int) (y.val : Int) = ((x.val ^^^ y.val : Nat) : Int)
  rw [Bits.bitXor_pp (by omega) (by omega)]
  rfl
/-! ### less_in, turned_in -/
theorem sc_less : FnScope koo koo (defScope (top 18)) := ⟨rfl, rfl, rfl, by decide +kernel, rfl, by decide +kernel, by decide +kernel⟩
theorem w_lessI {k : Nat} (to : TabOnly TB) (a : At K mg "less_in" (top 18) koo) : Df P w K mg base TB (k + 1) "less_in" (sSub Int) :=
  mk_df to a sc_less (by rintro ds d ⟨x, y, rfl, _⟩; rfl) fun f cdv A outer s H E ds d hr ⟨x, y, e1, e2⟩ => by
    subst e1 e2
    exact ru_one (ru_ret (ev_if (k := true) (evT_is (evT_eqS (ev_n 0) ev_str) hI) (fun _ => ev_sub (ev_n 1) (ev_n 2)) nofun) ⟨rfl, rfl⟩)
theorem w_lessP {k : Nat} (to : TabOnly TB) (a : At K mg "less_in" (top 18) koo) : Df P w K mg base TB (k + 1) "less_in" (sSub Pol) :=
  mk_df to a sc_less (by rintro ds d ⟨x, y, rfl, _⟩; rfl) fun f cdv A outer s H E ds d hr ⟨x, y, e1, e2⟩ => by
    subst e1 e2
    exact ru_one (ru_ret (ev_if (k := false) (evT_is (evT_eqS (ev_n 0) ev_str) hP) nofun (fun _ => ev_is (ev_xor (ev_n 1) (ev_n 2)) (congrArg D.int (xor_num x y)))) ⟨rfl, rfl⟩)
abbrev kn : List Str := ["kind", "number"]
theorem sc_turned : FnScope kn kn (defScope (top 19)) := ⟨rfl, rfl, rfl, by decide +kernel, rfl, by decide +kernel, by decide +kernel⟩
theorem w_turnedI {k : Nat} (to : TabOnly TB) (a : At K mg "turned_in" (top 19) kn) : Df P w K mg base TB (k + 1) "turned_in" (sNeg Int) :=
  mk_df to a sc_turned (by rintro ds d ⟨x, rfl, _⟩; rfl) fun f cdv A outer s H E ds d hr ⟨x, e1, e2⟩ => by
    subst e1 e2
    exact ru_one (ru_ret (ev_if (k := true) (evT_is (evT_eqS (ev_n 0) ev_str) hI) (fun _ => ev_is (ev_sub ev_int (ev_n 1)) (congrArg D.int (Int.zero_sub _))) nofun) ⟨rfl, rfl⟩)
theorem w_turnedP {k : Nat} (to : TabOnly TB) (a : At K mg "turned_in" (top 19) kn) : Df P w K mg base TB (k + 1) "turned_in" (sNeg Pol) :=
  mk_df to a sc_turned (by rintro ds d ⟨x, rfl, _⟩; rfl) fun f cdv A outer s H E ds d hr ⟨x, e1, e2⟩ => by
    subst e1 e2
    exact ru_one (ru_ret (ev_if (k := false) (evT_is (evT_eqS (ev_n 0) ev_str) hP) nofun (fun _ => ev_n 1)) ⟨rfl, rfl⟩)
/-! ### times_in -/
abbrev kt : List Str := ["kind", "one", "other", "found", "place"]
theorem sc_times : FnScope kt koo (defScope (top 20)) := ⟨rfl, rfl, rfl, by decide +kernel, rfl, by decide +kernel, by decide +kernel⟩
theorem w_timesI {k : Nat} (to : TabOnly TB) (a : At K mg "times_in" (top 20) koo) : Df P w K mg base TB (k + 1) "times_in" (sMul Int) :=
  mk_df to a sc_times (by rintro ds d ⟨x, y, rfl, _⟩; rfl) fun f cdv A outer s H E ds d hr ⟨x, y, e1, h1, h2, e2⟩ => by
    subst e1 e2
    exact ru_cons (ru_if (k := true) (evT_is (evT_eqS (ev_n 0) ev_str) hI) (fun _ => ru_one (ru_ret (ev_mul (ev_n 1) (ev_n 2) (by unfold CMulX; have h1' : bitsOf x ≤ 2 ^ 25 := h1; have h2' : bitsOf y ≤ 2 ^ 25 := h2; show ((bitsOf x : Nat) : Int) + ((bitsOf y : Nat) : Int) ≤ _; omega)) ⟨rfl, rfl⟩)) nofun)
theorem Bits.bitAnd_pp' (n : Nat) : Builtin.bitAnd ((n : Nat) : Int) 1 = ((n &&& 1 : Nat) : Int) := by
  rw [bitAnd_pp (Int.natCast_nonneg n) (by decide)]; rfl
theorem bit_test (y i : Nat) : (decide (Builtin.bitAnd ((y : Int) / 2 ^ (Int.toNat ((i : Nat) : Int))) 1 = 1)) = y.testBit i := by
  rw [show ((y : Int) / 2 ^ (Int.toNat ((i : Nat) : Int))) = ((y / 2 ^ i : Nat) : Int) from by simp]
  rw [Bits.bitAnd_pp' _]
  rw [Nat.testBit, Nat.shiftRight_eq_div_pow, Nat.and_comm 1]
  rw [Bool.eq_iff_iff, decide_eq_true_eq, bne_iff_ne]
  have := Nat.and_one_is_mod (y / 2 ^ i)
  omega
theorem shl_num (x i : Nat) : (x : Int) * 2 ^ (Int.toNat ((i : Nat) : Int)) = ((x <<< i : Nat) : Int) := by
  rw [Nat.shiftLeft_eq]; simp
theorem w_timesP {k : Nat} (to : TabOnly TB) (a : At K mg "times_in" (top 20) koo) (gr : mg "range" = none) : Df P w K mg base TB (k + 1) "times_in" (sMul Pol) :=
  mk_df to a sc_times (by rintro ds d ⟨x, y, rfl, _⟩; rfl) fun f cdv A outer s H E ds d hr ⟨x, y, e1, h1, h2, e2⟩ => by
    subst e1 e2
    have b1 : bl x.val ≤ 2 ^ 25 := by rw [← bits_nat]; exact h1
    have b2 : bl y.val ≤ 2 ^ 25 := by rw [← bits_nat]; exact h2
    refine ru_cons (ru_if (k := false) (evT_is (evT_eqS (ev_n 0) ev_str) hP) nofun fun _ => ru_nil ?_)
    refine ru_cons (ru_set 3 sc_times.nd ev_int ?_)
    refine ru_cons (ru_for (fun i ρ T => T = TB ∧ ∃ v, ρ = [some (.str (Kd.kind Pol)), some (nI Pol x), some (nI Pol y), some (.int (mulF x.val y.val i : Nat)), v]) ⟨rfl, none, rfl⟩ PassesOwn.never rfl (evi_range1 gr (ev_is (ev_bits (ev_n 2)) (by rw [show Builtin.Int.intBits (Kd.num y) = bl y.val from bits_nat y.val])) (by omega) (by omega)) (fun i d ρ T hd ⟨eT, v, eρ⟩ => ?_) ?_)
    · subst eT eρ
      have hi : i < bl y.val := by
        have := (List.getElem?_eq_some_iff.mp hd).1
        simpa using this
      have ed : d = .int (i : Nat) := by
        rw [List.getElem?_map, List.getElem?_range (by simpa using hi)] at hd
        exact (Option.some.inj hd).symm
      subst ed
      refine ⟨_, _, evg_n 4 sc_times.nd, ru_one (ru_if (k := y.val.testBit i) (evT_is (evT_eq (ev_and (ev_shr (ev_n 2) (ev_n 4) (by omega)) ev_int) ev_int) (bit_test y.val i)) (fun hb => ru_one (ru_set 3 sc_times.nd (ev_xor (ev_n 3) (ev_shl (ev_n 1) (ev_n 4) ⟨by omega, ?_⟩)) ⟨rfl, some (.int (i : Nat)), ?_⟩)) (fun hb => ru_nil ⟨rfl, some (.int (i : Nat)), ?_⟩))⟩
      · show ((bitsOf (x.val : Int) : Nat) : Int) + _ ≤ _
        rw [bits_nat]; omega
      · show [_, _, _, _, _] = _
        rw [show Kd.num x * 2 ^ (Int.toNat ((i : Nat) : Int)) = ((x.val <<< i : Nat) : Int) from shl_num x.val i]
        rw [Bits.bitXor_pp (Int.natCast_nonneg _) (Int.natCast_nonneg _)]
        simp only [mulF, hb, if_true]
        rfl
      · show [_, _, _, _, _] = _
        simp [mulF, hb]
    · intro ρ T ⟨eT, v, eρ⟩
      subst eT eρ
      refine ru_one (ru_ret (ev_n 3) ⟨?_, rfl⟩)
      rw [show ((List.range (Int.toNat ((bl y.val : Nat) : Int))).map fun i => D.int (i : Nat)).length = bl y.val from by simp]
      rfl

/-! ### divided_in -/
theorem dvF_fuel {y : Nat} (hy : 0 < y) : ∀ (n m q r : Nat), bl r ≤ n → bl r ≤ m → dvF y n q r = dvF y m q r
  | 0, 0, _, _, _, _ => rfl
  | 0, m + 1, q, r, h, _ => by
    have := bl_pos hy
    show (q, r) = if bl y ≤ bl r then _ else _
    rw [if_neg (by omega)]
  | n + 1, 0, q, r, _, h => by
    have := bl_pos hy
    show (if bl y ≤ bl r then _ else _) = (q, r)
    rw [if_neg (by omega)]
  | n + 1, m + 1, q, r, h1, h2 => by
    show (if bl y ≤ bl r then _ else _) = if bl y ≤ bl r then _ else _
    split
    · rename_i l
      have := dv_step hy l
      exact dvF_fuel hy n m _ _ (by omega) (by omega)
    · rfl
abbrev kd : List Str := ["kind", "number", "by", "often", "rest", "place"]
theorem sc_div : FnScope kd kno (defScope (top 21)) := ⟨rfl, rfl, rfl, by decide +kernel, rfl, by decide +kernel, by decide +kernel⟩
theorem cdiv_of {x y : Int} (h : 0 < y) (hb : bitsOf y ≤ 9000) : CDivW x y := by
  refine ⟨h, ?_⟩
  unfold bitsOf Builtin.Int.intBits at hb
  rw [if_neg (by simpa using (show y ≠ 0 by omega))] at hb
  omega
theorem w_divI {k : Nat} (to : TabOnly TB) (a : At K mg "divided_in" (top 21) kno) : Df P w K mg base TB (k + 1) "divided_in" (sDiv Int) :=
  mk_df to a sc_div (by rintro ds d ⟨x, y, rfl, _⟩; rfl) fun f cdv A outer s H E ds d hr ⟨x, y, e1, h1, h2, h3, e2⟩ => by
    subst e1 e2
    exact ru_cons (ru_if (k := true) (evT_is (evT_eqS (ev_n 0) ev_str) hI) (fun _ => ru_one (ru_ret (ev_tup (eva_cons (ev_fdiv (ev_n 1) (ev_n 2) (cdiv_of h2 h3)) (eva_cons (ev_mod (ev_n 1) (ev_n 2) h2) eva_nil))) ⟨rfl, rfl⟩)) nofun)
theorem bits_ge (r y : Nat) : decide ((bl y : Int) ≤ (bl r : Int)) = decide (bl y ≤ bl r) := by
  rw [Bool.eq_iff_iff, decide_eq_true_eq, decide_eq_true_eq]; omega
theorem w_divP {k : Nat} (to : TabOnly TB) (a : At K mg "divided_in" (top 21) kno) : Df P w K mg base TB (k + 1) "divided_in" (sDiv Pol) :=
  mk_df to a sc_div (by rintro ds d ⟨x, y, rfl, _⟩; rfl) fun f cdv A outer s H E ds d hr ⟨x, y, e1, h1, h2, h3, e2⟩ => by
    subst e1 e2
    have b1 : bl x.val ≤ 2 ^ 25 := by rw [← bits_nat]; exact h1
    have hy : 0 < y.val := by have : 0 < (y.val : Int) := h2; omega
    have hyb := bl_pos hy
    have bn : ∀ n : Nat, Builtin.Int.intBits ((n : Nat) : Int) = bl n := bits_nat
    refine ru_cons (ru_if (k := false) (evT_is (evT_eqS (ev_n 0) ev_str) hP) nofun fun _ => ru_nil ?_)
    refine ru_cons (ru_par rfl sc_div.nd (i := 3) (j := 4) (by decide) (eva_cons ev_int (eva_cons (ev_n 1) eva_nil)) ?_)
    refine ru_cons (ru_while (fun m ρ T => T = TB ∧ ∃ (q r : Nat) (v : Option D), ρ = [some (.str (Kd.kind Pol)), some (nI Pol x), some (nI Pol y), some (.int q), some (.int r), v] ∧ bl r = m ∧ bl r ≤ bl x.val ∧ dvF y.val (bl r) q r = dvF y.val (bl x.val) 0 x.val) (bl x.val) ⟨rfl, 0, x.val, none, rfl, rfl, Nat.le_refl _, rfl⟩ PassesOwn.never ?_)
    rintro m ρ T ⟨rfl, q, r, v, rfl, rfl, hle, hd⟩
    refine ⟨decide (bl y.val ≤ bl r), evT_is (evT_ge (ev_bits (ev_n 4)) (ev_bits (ev_n 2))) (by rw [bn, show Builtin.Int.intBits (Kd.num y) = bl y.val from bits_nat _]; exact bits_ge r y.val), fun hk => ?_, fun hk => ?_⟩
    · have l := of_decide_eq_true hk
      have st := dv_step hy l
      have e1 : dvF y.val (bl r) q r = dvF y.val (bl r - 1) (q ||| 1 <<< (bl r - bl y.val)) (r ^^^ y.val <<< (bl r - bl y.val)) := by
        have key : ∀ n, dvF y.val (n + 1) q r = dvF y.val n (q ||| 1 <<< (bl r - bl y.val)) (r ^^^ y.val <<< (bl r - bl y.val)) := fun n => by
          show (if bl y.val ≤ bl r then _ else _) = _
          rw [if_pos l]
        have := key (bl r - 1)
        rwa [show bl r - 1 + 1 = bl r by omega] at this
      have hsub : ((bl r : Nat) : Int) - (bl y.val : Nat) = ((bl r - bl y.val : Nat) : Int) := by omega
      have cs : ∀ z : Nat, bl z ≤ 2 ^ 25 → CShl ((z : Nat) : Int) ((bl r - bl y.val : Nat) : Int) := fun z hz => ⟨by omega, by rw [bn]; omega⟩
      refine ru_cons (ru_set 5 sc_div.nd (d := .int ((bl r - bl y.val : Nat) : Int)) (ev_is (ev_sub (ev_bits (ev_n 4)) (ev_bits (ev_n 2))) (by rw [bn, show Builtin.Int.intBits (Kd.num y) = bl y.val from bits_nat _, hsub])) ?_)
      refine ru_one (ru_par rfl sc_div.nd (i := 3) (j := 4) (by decide) (eva_cons (ev_or (ev_n 3) (ev_shl ev_int (ev_n 5) (cs 1 (by decide)))) (eva_cons (ev_xor (ev_n 4) (ev_shl (ev_n 2) (ev_n 5) (cs y.val (by omega)))) eva_nil)) ⟨_, ?_, rfl, q ||| 1 <<< (bl r - bl y.val), r ^^^ y.val <<< (bl r - bl y.val), some (.int ((bl r - bl y.val : Nat) : Int)), ?_, rfl, by omega, ?_⟩)
      · exact st
      · show [_, _, _, _, _, _] = _
        rw [show (1 : Int) * (2 : Int) ^ (Int.toNat ((bl r - bl y.val : Nat) : Int)) = ((1 <<< (bl r - bl y.val) : Nat) : Int) from shl_num 1 _]
        rw [show (y.val : Int) * (2 : Int) ^ (Int.toNat ((bl r - bl y.val : Nat) : Int)) = ((y.val <<< (bl r - bl y.val) : Nat) : Int) from shl_num y.val _]
        rw [Bits.bitXor_pp (Int.natCast_nonneg _) (Int.natCast_nonneg _), Bits.bitOr_pp (Int.natCast_nonneg _) (Int.natCast_nonneg _)]
        rfl
      · rw [← hd, e1]
        exact dvF_fuel hy _ _ _ _ (Nat.le_refl _) (by omega)
    · have l := of_decide_eq_false hk
      have e1 : dvF y.val (bl r) q r = (q, r) := by
        cases h : bl r with
        | zero => rfl
        | succ n =>
          show (if bl y.val ≤ bl r then _ else _) = _
          rw [if_neg l]
      rw [e1] at hd
      have eq : Kd.quo x y = (⟨q⟩ : Pol) := Pol.ext (by show (dvF y.val (bl x.val) 0 x.val).1 = q; rw [← hd])
      have er : Kd.rem x y = (⟨r⟩ : Pol) := Pol.ext (by show dvr x.val y.val = r; unfold dvr; rw [if_neg (by omega), ← hd])
      rw [eq, er]
      exact ru_one (ru_ret (ev_tup (eva_cons (ev_n 3) (eva_cons (ev_n 4) eva_nil))) ⟨rfl, rfl⟩)
/-! ### rest_in, over_in, is_multiple_in -/
variable {R : Type} [Kd R]
theorem sc_rest : FnScope kno kno (defScope (top 22)) := ⟨rfl, rfl, rfl, by decide +kernel, rfl, by decide +kernel, by decide +kernel⟩
theorem w_rest {k : Nat} (to : TabOnly TB) (a : At K mg "rest_in" (top 22) kno) (F : Df P w K mg base TB k "divided_in" (sDiv R)) : Df P w K mg base TB (k + 1) "rest_in" (sRem R) :=
  mk_df to a sc_rest (by rintro ds d ⟨x, y, rfl, _⟩; rfl) fun f cdv A outer s H E ds d hr ⟨x, y, e1, h1, h2, h3, e2⟩ => by
    subst e1 e2
    by_cases hy : Kd.num y = 0
    · have e : y = 0 := Kd.inj (by rw [hy, Kd.num0])
      refine ru_one (ru_ret (ev_if (k := true) (evT_is (evT_eq (ev_n 2) ev_int) (by rw [decide_eq_true hy])) (fun _ => ev_is (ev_n 1) ?_) nofun) ⟨rfl, rfl⟩)
      rw [e, Kd.rem0]
    · have hp : 0 < Kd.num y := by omega
      exact ru_one (ru_ret (ev_if (k := false) (evT_is (evT_eq (ev_n 2) ev_int) (by rw [decide_eq_false hy])) nofun (fun _ => ev_ixT (ev_call F (Le.refl _) hr (eva_cons (ev_n 0) (eva_cons (ev_n 1) (eva_cons (ev_n 2) eva_nil))) ⟨x, y, rfl, h1, hp, h3, rfl⟩) ev_int rfl)) ⟨rfl, rfl⟩)
theorem sc_over : FnScope kno kno (defScope (top 23)) := ⟨rfl, rfl, rfl, by decide +kernel, rfl, by decide +kernel, by decide +kernel⟩
theorem w_over {k : Nat} (to : TabOnly TB) (a : At K mg "over_in" (top 23) kno) (F : Df P w K mg base TB k "divided_in" (sDiv R)) : Df P w K mg base TB (k + 1) "over_in" (sQuo R) :=
  mk_df to a sc_over (by rintro ds d ⟨x, y, rfl, _⟩; rfl) fun f cdv A outer s H E ds d hr ⟨x, y, e1, h1, h2, h3, e2⟩ => by
    subst e1 e2
    exact ru_one (ru_ret (ev_ixT (ev_call F (Le.refl _) hr (eva_cons (ev_n 0) (eva_cons (ev_n 1) (eva_cons (ev_n 2) eva_nil))) ⟨x, y, rfl, h1, h2, h3, rfl⟩) ev_int rfl) ⟨rfl, rfl⟩)
theorem sc_mult : FnScope kno kno (defScope (top 24)) := ⟨rfl, rfl, rfl, by decide +kernel, rfl, by decide +kernel, by decide +kernel⟩
theorem w_mult {k : Nat} (to : TabOnly TB) (a : At K mg "is_multiple_in" (top 24) kno) (F : Df P w K mg base TB k "rest_in" (sRem R)) : Df P w K mg base TB (k + 1) "is_multiple_in" (sMult R) :=
  mk_df to a sc_mult (by rintro ds d ⟨x, y, rfl, _⟩; rfl) fun f cdv A outer s H E ds d hr ⟨x, y, e1, h1, h2, h3, e2⟩ => by
    subst e1 e2
    exact ru_one (ru_ret (ev_eq (ev_call F (Le.refl _) hr (eva_cons (ev_n 0) (eva_cons (ev_n 1) (eva_cons (ev_n 2) eva_nil))) ⟨x, y, rfl, h1, h2, h3, rfl⟩) ev_int) ⟨rfl, rfl⟩)
end
end PU
set_option Elab.async false
set_option linter.all false
set_option maxRecDepth 100000
set_option maxHeartbeats 4000000
/-! W2: rows. -/
namespace PU
open PySem PySem.Spec PyProof.Rows L2
section
variable {X : Cx} {elt tg iter : Expr} {scope : Scope} {pos : Pos} {ρ : Rho} {T : Th}
/-- [elt for tg in iter] -/
theorem ev_lcA {α : Type} (xs : List α) (φ : α → D) (g : α → D) (own : List (Str × Nat)) (ρ' : α → Rho) (js : List Nat) (hc : X.calm = true) (hN : X.N.Nodup) (hi : EvI X tg iter ρ T (xs.map φ)) (ok : blkC X.N X.env.scope scope own = true) (hl : xs.length ≤ 1000000) (hjs : ∀ j ∈ js, j ∈ own.map (·.2))
    (hg : ∀ x, x ∈ xs → ∀ s H C cl fp, EvG (BX X s H scope cl C fp) tg (φ x) (wipeR ρ (own.map (·.2))) (ρ' x) js)
    (he : ∀ x, x ∈ xs → ∀ s H C cl fp, Ev (BX X s H scope cl C fp) elt (ρ' x) T (g x)) (hs : ∀ x, foldedSetIterable iter X.env x = pure x := by intro _; rfl) :
    Ev X (.ListComp elt [⟨tg, iter, [], 0⟩] scope pos) ρ T (.lst (xs.map g)) :=
  ev_is (ev_lc xs φ (fun _ => true) g own ρ' js hc hN hi ok hl hjs hg (fun x m s H C cl fp => evts_nil) (fun x m _ => he x m) hs) (by rw [List.filter_eq_self.mpr (fun _ _ => rfl)])
end
section
variable (R : Type) [Kd R]
def rD (row : List R) : D := .lst (row.map (nI R))
def rsD (rows : List (List R)) : D := .lst (rows.map (rD R))
end
section
variable {R : Type} [Kd R]
def Sm (x : R) : Prop := bitsOf (Kd.num x) ≤ 2 ^ 25
def lowR (row other : List R) (q : R) : List R := List.zipWith (fun n m => n - m * q) row other
def sLow (R : Type) [Kd R] (ds : List D) (d : D) : Prop := ∃ (row other : List R) (q : R), ds = [.str (Kd.kind R), rD R row, rD R other, nI R q] ∧ row.length = other.length ∧ row.length ≤ 1000 ∧ (∀ x ∈ other, Sm x) ∧ Sm q ∧ d = rD R (lowR row other q)
def sTurn (R : Type) [Kd R] (ds : List D) (d : D) : Prop := ∃ row : List R, ds = [.str (Kd.kind R), rD R row] ∧ row.length ≤ 1000 ∧ d = rD R (row.map fun x => -x)
theorem zw {α β γ : Type} (f : α → β → γ) : ∀ (a : List α) (b : List β), List.zipWith f a b = (a.zip b).map fun p => f p.1 p.2
  | [], _ => rfl
  | _ :: _, [] => rfl
  | x :: a, y :: b => by simp only [List.zipWith_cons_cons, List.zip_cons_cons, List.map_cons, zw f a b]
theorem zip_nI (row other : List R) : zipD (row.map (nI R)) (other.map (nI R)) = (row.zip other).map fun p => .tup [nI R p.1, nI R p.2] := by
  unfold zipD
  rw [List.zipWith_map]
  induction row generalizing other with
  | nil => rfl
  | cons a r ih =>
    cases other with
    | nil => rfl
    | cons b o => simp only [List.zipWith_cons_cons, List.zip_cons_cons, List.map_cons, ih]
end
section
variable {P : Program} {w : World} {K : Fg} {mg : Str → Option Value} {base : Heap} {TB : Th} {R : Type} [Kd R]
abbrev krn : List Str := ["kind", "row", "number"]
theorem sc_trow : FnScope krn ["kind", "row"] (defScope (top 33)) := ⟨rfl, rfl, rfl, by decide +kernel, rfl, by decide +kernel, by decide +kernel⟩
theorem w_trow {k : Nat} (to : TabOnly TB) (a : At K mg "turned_row" (top 33) ["kind", "row"]) (F : Df P w K mg base TB k "turned_in" (sNeg R)) : Df P w K mg base TB (k + 1) "turned_row" (sTurn R) :=
  mk_df to a sc_trow (by rintro ds d ⟨x, rfl, _⟩; rfl) fun f cdv A outer s H E ds d hr ⟨row, e1, h1, e2⟩ => by
    subst e1 e2
    refine ru_one (ru_ret (d := rD R (row.map fun x => -x)) (ev_is (ev_lcA row (nI R) (fun x => nI R (-x)) [("number", 2)] _ [2] rfl sc_trow.nd (evi_list (ev_n 1)) rfl (by omega) (by simp) (fun x m s H C cl fp => evg_n 2 sc_trow.nd) (fun x m s H C cl fp => ev_call F (Le.refl _) hr (eva_cons (ev_n 0) (eva_cons (ev_n 2) eva_nil)) ⟨x, rfl, rfl⟩)) ?_) ⟨rfl, rfl⟩)
    unfold rD
    rw [List.map_map]
    rfl

abbrev kro : List Str := ["kind", "row", "other", "often"]
abbrev klo : List Str := ["kind", "row", "other", "often", "number", "more"]
theorem sc_low : FnScope klo kro (defScope (top 34)) := ⟨rfl, rfl, rfl, by decide +kernel, rfl, by decide +kernel, by decide +kernel⟩
theorem w_low {k : Nat} (to : TabOnly TB) (a : At K mg "lowered" (top 34) kro) (gz : mg "zip" = none) (F1 : Df P w K mg base TB k "less_in" (sSub R)) (F2 : Df P w K mg base TB k "times_in" (sMul R)) : Df P w K mg base TB (k + 1) "lowered" (sLow R) :=
  mk_df to a sc_low (by rintro ds d ⟨x, y, z, rfl, _⟩; rfl) fun f cdv A outer s H E ds d hr ⟨row, other, q, e1, h1, h2, h3, h4, e2⟩ => by
    subst e1 e2
    refine ru_one (ru_ret (d := rD R (lowR row other q)) (ev_is (ev_lcA (row.zip other) (fun p => .tup [nI R p.1, nI R p.2]) (fun p => nI R (p.1 - p.2 * q)) [("number", 4), ("more", 5)] _ [4, 5] rfl sc_low.nd ((zip_nI row other) ▸ evi_zipS gz (ev_n 1) (ev_n 2) (by simpa using h1)) rfl (by rw [List.length_zip]; omega) (by simp) (fun x m s H C cl fp => evg_tup rfl (evgs_cons (evg_n 4 sc_low.nd) (evgs_cons (evg_n 5 sc_low.nd) evgs_nil))) (fun p m s H C cl fp => ev_call F1 (Le.refl _) hr (eva_cons (ev_n 0) (eva_cons (ev_n 4) (eva_cons (ev_call F2 (Le.refl _) hr (eva_cons (ev_n 0) (eva_cons (ev_n 5) (eva_cons (ev_n 3) eva_nil))) ⟨p.2, q, rfl, h3 _ (List.of_mem_zip m).2, h4, rfl⟩) eva_nil))) ⟨p.1, p.2 * q, rfl, rfl⟩)) ?_) ⟨rfl, rfl⟩)
    unfold rD lowR
    rw [zw, List.map_map]
    rfl
/-! ### upright -/
theorem getD_at {α : Type} (row : List α) (z : α) {c : Nat} (h : c < row.length) : row[c]? = some (row.getD c z) := by
  rw [List.getD_eq_getElem?_getD, List.getElem?_eq_getElem h]; rfl
theorem atI_nat {α : Type} {xs : List α} {n : Nat} {d : α} (h : xs[n]? = some d) : atI xs (n : Int) = some d := by
  have hl := (List.getElem?_eq_some_iff.mp h).1
  unfold atI ixN
  rw [if_pos (Int.natCast_nonneg n), if_pos (by omega)]
  simpa using h
theorem at_row {row : List R} {c : Nat} (h : c < row.length) : atI (row.map (nI R)) (c : Int) = some (nI R (row.getD c 0)) := atI_nat (by rw [List.getElem?_map, getD_at row 0 h]; rfl)
theorem at_rows {rows : List (List R)} {c : Nat} (h : c < rows.length) : atI (rows.map (rD R)) (c : Int) = some (rD R (rows.getD c [])) := atI_nat (by rw [List.getElem?_map, getD_at rows [] h]; rfl)
def upR (c : Nat) (row : List R) : List R := if Kd.num (row.getD c 0) < 0 then row.map fun x => -x else row
def sUp (R : Type) [Kd R] (ds : List D) (d : D) : Prop := ∃ (row : List R) (c : Nat), ds = [.str (Kd.kind R), rD R row, .int c] ∧ c < row.length ∧ row.length ≤ 1000 ∧ d = rD R (upR c row)
abbrev krc : List Str := ["kind", "row", "column"]
theorem sc_up : FnScope krc krc (defScope (top 35)) := ⟨rfl, rfl, rfl, by decide +kernel, rfl, by decide +kernel, by decide +kernel⟩
theorem w_up {k : Nat} (to : TabOnly TB) (a : At K mg "upright" (top 35) krc) (F : Df P w K mg base TB k "turned_row" (sTurn R)) : Df P w K mg base TB (k + 1) "upright" (sUp R) :=
  mk_df to a sc_up (by rintro ds d ⟨x, y, rfl, _⟩; rfl) fun f cdv A outer s H E ds d hr ⟨row, c, e1, h1, h2, e2⟩ => by
    subst e1 e2
    refine ru_one (ru_ret (ev_if (k := decide (Kd.num (row.getD c 0) < 0)) (evT_lt (ev_ix (ev_n 1) (ev_n 2) (at_row h1)) ev_int) (fun hk => ?_) (fun hk => ?_)) ⟨rfl, rfl⟩)
    · have e : upR c row = row.map fun x => -x := if_pos (of_decide_eq_true hk)
      rw [e]
      exact ev_call F (Le.refl _) hr (eva_cons (ev_n 0) (eva_cons (ev_n 1) eva_nil)) ⟨row, rfl, h2, rfl⟩
    · have e : upR c row = row := if_neg (of_decide_eq_false hk)
      rw [e]
      exact ev_n 1
end
end PU
set_option Elab.async false
set_option linter.all false
set_option maxRecDepth 100000
set_option maxHeartbeats 4000000
/-! W3: a row that leads. -/
namespace PU
open PySem PySem.Spec PyProof.Rows L2 LamX
section
variable {R : Type} [Kd R]
def enumR {α : Type} (xs : List α) : List (Nat × α) := (List.range xs.length).zip xs
theorem enumR_D (f : List R → D) (rows : List (List R)) : enumD (rows.map f) = (enumR rows).map fun p => .tup [.int (p.1 : Nat), f p.2] := by
  unfold enumD enumR
  rw [zw, List.length_map, List.zip_map_right, List.map_map]
  rfl
theorem mem_enumR {α : Type} {xs : List α} {p : Nat × α} (h : p ∈ enumR xs) : p.1 < xs.length ∧ xs[p.1]? = some p.2 := by
  unfold enumR at h
  obtain ⟨i, hi, e⟩ := List.mem_iff_getElem.mp h
  rw [List.getElem_zip] at e
  simp only [List.length_zip, List.length_range, Nat.min_self] at hi
  subst e
  simp only [List.getElem_range]
  exact ⟨hi, List.getElem?_eq_getElem hi⟩
theorem enumR_get {α : Type} {xs : List α} {p : Nat × α} (z : α) (h : p ∈ enumR xs) : p.1 < xs.length ∧ xs.getD p.1 z = p.2 := by
  obtain ⟨a, b⟩ := mem_enumR h
  refine ⟨a, ?_⟩
  rw [List.getD_eq_getElem?_getD, b]; rfl
def col (c : Nat) (row : List R) : R := row.getD c 0
def some0 (c : Nat) (rows : List (List R)) : List Nat := ((enumR rows).filter fun p => !decide (Kd.num (col c p.2) = 0)).map (·.1)
def stepR (c b : Nat) (rows : List (List R)) : List (List R) := (enumR rows).map fun p => if p.1 = b then p.2 else lowR p.2 (rows.getD b []) (Kd.quo (col c p.2) (col c (rows.getD b [])))
structure Best (c b : Nat) (rows : List (List R)) : Prop where
  lt : b < rows.length
  ne : Kd.num (col c (rows.getD b [])) ≠ 0
  le : ∀ i, i < rows.length → Kd.num (col c (rows.getD i [])) ≠ 0 → Kd.num (col c (rows.getD b [])) ≤ Kd.num (col c (rows.getD i [])) ∧ (i < b → Kd.num (col c (rows.getD b [])) < Kd.num (col c (rows.getD i [])))
/-- rows of one length, not too many, and a column of theirs -/
structure Shp (n c : Nat) (rows : List (List R)) : Prop where
  few : rows.length ≤ 1000
  len : ∀ row ∈ rows, row.length = n
  wide : n ≤ 1000
  col : c < n
structure Szs (c b : Nat) (rows : List (List R)) : Prop where
  sm : ∀ row ∈ rows, ∀ x ∈ row, Sm x
  pos : 0 < Kd.num (PU.col c (rows.getD b []))
  few : bitsOf (Kd.num (PU.col c (rows.getD b []))) ≤ 9000
  quo : ∀ row ∈ rows, Sm (Kd.quo (PU.col c row) (PU.col c (rows.getD b [])))
inductive Led (c : Nat) : Nat → List (List R) → Option (List R) → List (List R) → Prop
  | zero {rows : List (List R)} : some0 c rows = [] → Led c 1 rows none rows
  | done {rows : List (List R)} {b : Nat} : Best c b rows → Szs c b rows → (((enumR (stepR c b rows)).filter fun p => !decide (p.1 = b) && !decide (Kd.num (col c p.2) = 0)).map (·.1)) = [] →
      Led c 1 rows (some (rows.getD b [])) ((stepR c b rows).take b ++ (stepR c b rows).drop (b + 1))
  | more {rows : List (List R)} {b n : Nat} {o : Option (List R)} {out : List (List R)} : Best c b rows → Szs c b rows → (((enumR (stepR c b rows)).filter fun p => !decide (p.1 = b) && !decide (Kd.num (col c p.2) = 0)).map (·.1)) ≠ [] →
      Led c n (stepR c b rows) o out → Led c (n + 1) rows o out
theorem Led.inv {c m : Nat} {rows : List (List R)} {o : Option (List R)} {out : List (List R)} (h : Led c m rows o out) : (some0 c rows = [] ∧ o = none ∧ out = rows) ∨ ∃ b, Best c b rows ∧ Szs c b rows ∧
    (((((enumR (stepR c b rows)).filter fun p => !decide (p.1 = b) && !decide (Kd.num (col c p.2) = 0)).map (·.1)) = [] ∧ o = some (rows.getD b []) ∧ out = (stepR c b rows).take b ++ (stepR c b rows).drop (b + 1)) ∨
      ((((enumR (stepR c b rows)).filter fun p => !decide (p.1 = b) && !decide (Kd.num (col c p.2) = 0)).map (·.1)) ≠ [] ∧ ∃ n, m = n + 1 ∧ Led c n (stepR c b rows) o out)) := by
  cases h with
  | zero h0 => exact .inl ⟨h0, rfl, rfl⟩
  | done hb sz hz => exact .inr ⟨_, hb, sz, .inl ⟨hz, rfl, rfl⟩⟩
  | more hb sz hz hl => exact .inr ⟨_, hb, sz, .inr ⟨hz, _, rfl, hl⟩⟩
theorem some0_eq (c : Nat) (rows : List (List R)) : some0 c rows = (List.range rows.length).filter fun i => !decide (Kd.num (col c (rows.getD i [])) = 0) := by
  unfold some0
  have : ∀ (l : List (Nat × List R)), (∀ p ∈ l, rows.getD p.1 [] = p.2) → ((l.filter fun p => !decide (Kd.num (col c p.2) = 0)).map (·.1)) = (l.map (·.1)).filter fun i => !decide (Kd.num (col c (rows.getD i [])) = 0) := by
    intro l
    induction l with
    | nil => intro _; rfl
    | cons p l ih =>
      intro h
      rw [List.map_cons, List.filter_cons, List.filter_cons, h p List.mem_cons_self]
      have ih' := ih fun q m => h q (List.mem_cons_of_mem _ m)
      split
      · rw [List.map_cons, ih']
      · exact ih'
  rw [this _ fun p m => (enumR_get [] m).2]
  unfold enumR
  rw [List.map_fst_zip]
  simp
theorem Best.mem {c b : Nat} {rows : List (List R)} (h : Best c b rows) : b ∈ some0 c rows := by
  rw [some0_eq, List.mem_filter]
  exact ⟨List.mem_range.mpr h.lt, by simpa using h.ne⟩
theorem some0_lt {c i j : Nat} {rows : List (List R)} (h : (some0 c rows)[i]? = some j) : j < rows.length := by
  have := List.mem_of_getElem? h
  rw [some0_eq, List.mem_filter] at this
  exact List.mem_range.mp this.1
theorem some0_ne {c i j : Nat} {rows : List (List R)} (h : (some0 c rows)[i]? = some j) : Kd.num (col c (rows.getD j [])) ≠ 0 := by
  have := List.mem_of_getElem? h
  rw [some0_eq, List.mem_filter] at this
  simpa using this.2
theorem Best.uniq {c b i j : Nat} {rows : List (List R)} (h : Best c b rows) (hj : (some0 c rows)[i]? = some j) (hb : ∀ u v, (some0 c rows)[u]? = some v → Kd.num (col c (rows.getD j [])) ≤ Kd.num (col c (rows.getD v [])) ∧ (u < i → Kd.num (col c (rows.getD j [])) < Kd.num (col c (rows.getD v [])))) : j = b := by
  obtain ⟨u, hu, eu⟩ := List.mem_iff_getElem.mp h.mem
  have hu' : (some0 c rows)[u]? = some b := by rw [List.getElem?_eq_getElem hu, eu]
  have a1 := hb u b hu'
  have a2 := h.le j (some0_lt hj) (some0_ne hj)
  have pw : (some0 c rows).Pairwise (· < ·) := by
    rw [some0_eq]
    exact List.Pairwise.filter _ List.pairwise_lt_range
  rcases Nat.lt_trichotomy i u with l | l | l
  · have hi := (List.getElem?_eq_some_iff.mp hj)
    obtain ⟨hi1, hi2⟩ := hi
    have := List.pairwise_iff_getElem.mp pw i u hi1 hu l
    rw [hi2, eu] at this
    have := a2.2 this
    omega
  · subst l
    rw [hj] at hu'
    exact Option.some.inj hu'
  · have := a1.2 l
    omega
def oD (R : Type) [Kd R] : Option (List R) → D
  | some row => rD R row
  | none => .non
def sLed (R : Type) [Kd R] (ds : List D) (d : D) : Prop := ∃ (rows : List (List R)) (c n m : Nat) (o : Option (List R)) (out : List (List R)), ds = [.str (Kd.kind R), rsD R rows, .int c] ∧ Shp n c rows ∧ Led c m (rows.map (upR c)) o out ∧ d = .tup [oD R o, rsD R out]
theorem lowR_len (row other : List R) (q : R) : (lowR row other q).length = min row.length other.length := List.length_zipWith
theorem upR_len (c : Nat) (row : List R) : (upR c row).length = row.length := by
  unfold upR
  split <;> simp
theorem Shp.up {n c : Nat} {rows : List (List R)} (h : Shp n c rows) : Shp n c (rows.map (upR c)) :=
  ⟨by rw [List.length_map]; exact h.few, fun row hr => by
    obtain ⟨r, m, rfl⟩ := List.mem_map.mp hr
    rw [upR_len]; exact h.len r m, h.wide, h.col⟩
theorem stepR_length (c b : Nat) (rows : List (List R)) : (stepR c b rows).length = rows.length := by
  unfold stepR enumR
  simp
theorem getD_mem {α : Type} {xs : List α} {i : Nat} (z : α) (h : i < xs.length) : xs.getD i z ∈ xs := by
  rw [List.getD_eq_getElem?_getD, List.getElem?_eq_getElem h]
  exact List.getElem_mem h
theorem Shp.step {n c b : Nat} {rows : List (List R)} (h : Shp n c rows) (hb : b < rows.length) : Shp n c (stepR c b rows) :=
  ⟨by rw [stepR_length]; exact h.few, fun row hr => by
    unfold stepR at hr
    obtain ⟨p, m, rfl⟩ := List.mem_map.mp hr
    obtain ⟨m1, m2⟩ := mem_enumR m
    have l1 := h.len _ (List.mem_of_getElem? m2)
    have l2 := h.len _ (getD_mem [] hb)
    split
    · exact l1
    · rw [lowR_len, l1, l2, Nat.min_self], h.wide, h.col⟩
theorem shp_col {n c i : Nat} {rows : List (List R)} (h : Shp n c rows) (hi : i < rows.length) : atI ((rows.getD i []).map (nI R)) (c : Int) = some (nI R (col c (rows.getD i []))) := at_row (by rw [h.len _ (getD_mem [] hi)]; exact h.col)
end
section
variable {P : Program} {w : World} {K : Fg} {mg : Str → Option Value} {base : Heap} {TB : Th} {R : Type} [Kd R]
abbrev krw : List Str := ["kind", "rows", "column"]
abbrev kled : List Str := ["kind", "rows", "column", "some", "best", "lead", "left", "row", "at"]
theorem sc_led : FnScope kled krw (defScope (top 36)) := ⟨rfl, rfl, rfl, by decide +kernel, rfl, by decide +kernel, by decide +kernel⟩
theorem cut_to (xs : List D) (n : Nat) : cutD xs none (some (n : Int)) = xs.take n := by
  unfold cutD
  rw [HT.sIx_nat, HT.sIx_none, Nat.sub_zero, List.drop_zero]
  apply List.take_eq_take_iff.mpr; omega
theorem cut_from (xs : List D) (n : Nat) : cutD xs (some (n : Int)) none = xs.drop n := by
  unfold cutD
  rw [HT.sIx_nat, HT.sIx_none]
  rcases Nat.le_total n xs.length with h | h
  · rw [Nat.min_eq_left h, List.take_of_length_le (by rw [List.length_drop]; omega)]
  · rw [Nat.min_eq_right h, List.drop_of_length_le (Nat.le_refl _), List.drop_of_length_le h]; simp
theorem dec_nat (i j : Nat) : decide ((i : Int) = (j : Int)) = decide (i = j) := by
  rw [Bool.eq_iff_iff, decide_eq_true_eq, decide_eq_true_eq]; omega
structure Fr (mg : Str → Option Value) : Prop where
  range : mg "range" = none
  len : mg "len" = none
  min : mg "min" = none
  max : mg "max" = none
  enum : mg "enumerate" = none
  zip : mg "zip" = none
  sorted : mg "sorted" = none
  dict : mg "dict" = none
  isi : mg "isinstance" = none
  int : mg "int" = none
  bool : mg "bool" = none
  str : mg "str" = none
  list : mg "list" = none
  tuple : mg "tuple" = none
  sum : mg "sum" = none
  all : mg "all" = none
theorem w_led {k : Nat} {c0 Pt : Addr} (to : TabOnly TB) (a : AtC K mg "led" (top 36) krw c0) (tb : TabB base mg c0 Pt) (hT : TB Pt = some (.tab "led.<locals>.<lambda>")) (fr : Fr mg)
    (F1 : Df P w K mg base TB k "upright" (sUp R)) (F2 : Df P w K mg base TB k "lowered" (sLow R)) (F3 : Df P w K mg base TB k "over_in" (sQuo R)) : Df P w K mg base TB (k + 3) "led" (sLed R) :=
  mk_dfC to a sc_led (by rintro ds d ⟨rows, c, n, m, o, out, rfl, _⟩; rfl) fun f A outer s H E ds d hr ⟨rows, c, n, m, o, out, e1, h1, h2, e2⟩ => by
    subst e1 e2
    have F1' := F1.mono (Nat.le_add_right k 2)
    have F2' := F2.mono (Nat.le_add_right k 2)
    have F3' := F3.mono (Nat.le_add_right k 2)
    have h1' := h1.up
    have hu : (BodyX P w K mg base kled "led" (top 36) f (.ref c0) A outer s H E).A.units + 64 < cLine := by
      have := hr.un
      omega
    refine ru_cons (ru_set 6 sc_led.nd (d := rsD R (rows.map (upR c))) (ev_is (ev_lcA rows (rD R) (fun row => rD R (upR c row)) [("row", 7)] _ [7] rfl sc_led.nd (evi_list (ev_n 1)) rfl (Nat.le_trans h1.few (by decide)) (by simp) (fun x m s H C cl fp => evg_n 7 sc_led.nd) (fun row m s H C cl fp => ev_call F1' (Le.refl _) hr (eva_cons (ev_n 0) (eva_cons (ev_n 7) (eva_cons (ev_n 2) eva_nil))) ⟨row, c, rfl, by rw [h1.len _ m]; exact h1.col, by rw [h1.len _ m]; exact h1.wide, rfl⟩)) (by unfold rsD; rw [List.map_map]; rfl)) ?_)
    generalize rows.map (upR c) = left at h2 h1'
    refine ru_one (ru_while (fun m ρ T => T = TB ∧ ∃ (left : List (List R)) (v3 v4 v5 : Option D), ρ = [some (.str (Kd.kind R)), some (rsD R rows), some (.int c), v3, v4, v5, some (rsD R left), none, none] ∧ Led c m left o out ∧ Shp n c left) m ⟨rfl, left, none, none, none, rfl, h2, h1'⟩ PassesOwn.never ?_)
    rintro m ρ T ⟨rfl, left, v3, v4, v5, rfl, hl, sh⟩
    refine ⟨true, evT_val ev_bl, fun _ => ?_, nofun⟩
    have hin : ∀ p ∈ enumR left, atI (p.2.map (nI R)) (c : Int) = some (nI R (col c p.2)) := fun p m => at_row (by rw [sh.len _ (List.mem_of_getElem? (mem_enumR m).2)]; exact sh.col)
    have few : (enumR left).length ≤ 1000000 := by
      unfold enumR; rw [List.length_zip, List.length_range, Nat.min_self]
      exact Nat.le_trans sh.few (by decide)
    refine ru_cons (ru_setLc 3 (lcH_det (enumR left) (fun p => .tup [.int (p.1 : Nat), rD R p.2]) (fun p => !decide (Kd.num (col c p.2) = 0)) (fun p => .int (p.1 : Nat)) [("at", 8), ("row", 7)] _ [8, 7] rfl sc_led.nd ((enumR_D (rD R) left) ▸ evi_enum fr.enum (ev_n 6)) rfl few (by simp) (fun x m s H C cl fp => evg_tup rfl (evgs_cons (evg_n 8 sc_led.nd) (evgs_cons (evg_n 7 sc_led.nd) evgs_nil)))
      (fun p m s H C cl fp => evts_one (evT_ne (ev_ix (ev_n 7) (ev_n 2) (hin p m)) ev_int)) (fun p m _ s H C cl fp => ev_n 8) ?_))
    have es : ((enumR left).filter fun p => !decide (Kd.num (col c p.2) = 0)).map (fun p => D.int (p.1 : Nat)) = ((some0 c left).map fun i : Nat => (i : Int)).map D.int := by
      unfold some0
      rw [List.map_map, List.map_map]; rfl
    rw [es]
    have hse : ∀ l : List Nat, (l.map fun i : Nat => (i : Int)).isEmpty = l.isEmpty := fun l => by cases l <;> rfl
    rcases hl.inv with ⟨h0, e1, e2⟩ | ⟨b, hb, sz, hfin⟩
    · subst e1 e2
      exact ru_cons (ru_if (k := true) (evT_is (evT_eqNil hu (ev_n 3) (ev_lst eva_nil)) (by rw [hse, h0]; rfl)) (fun _ => ru_one (ru_ret (ev_tup (eva_cons ev_non (eva_cons (ev_n 6) eva_nil))) ⟨rfl, rfl⟩)) nofun)
    have hbs := hb.mem
    have hne : some0 c left ≠ [] := fun z => by rw [z] at hbs; cases hbs
    have hlb := sh.len _ (getD_mem [] hb.lt)
    refine ru_cons (ru_if (k := false) (evT_is (evT_eqNil hu (ev_n 3) (ev_lst eva_nil)) (by rw [hse]; cases h : some0 c left with
      | nil => exact absurd h hne
      | cons => rfl)) nofun fun _ => ru_nil ?_)
    have hat : ∀ i d, (((some0 c left).map fun i : Nat => (i : Int)).map D.int)[i]? = some d → ∃ j : Nat, (some0 c left)[i]? = some j ∧ d = D.int (j : Int) := fun i d h => by
      rw [List.map_map, List.getElem?_map] at h
      cases z : (some0 c left)[i]? with
      | none => rw [z] at h; cases h
      | some j => rw [z] at h; exact ⟨j, z, (Option.some.inj h).symm⟩
    have gd : ∀ {u v : Nat}, (some0 c left)[u]? = some v → (some0 c left).getD u 0 = v := fun {u v} h => by rw [List.getD_eq_getElem?_getD, h]; rfl
    refine ru_cons (ru_set 4 sc_led.nd (d := .int (b : Nat)) (ev_minkey (k := k) (j := 8) (x := "at") (fun i => Kd.num (col c (left.getD ((some0 c left).getD i 0) []))) (ev_n 3) (by simpa using List.length_pos_iff.mpr hne) fr.min rfl sc_led.nd rfl rfl tb rfl hT rfl hr (by intros; rfl)
      (fun i d hd s H f' c' hr' => ?_) (fun i d hd hbest => ?_)) ?_)
    · obtain ⟨j, hj, rfl⟩ := hat i d hd
      have hjl := some0_lt hj
      rw [gd hj]
      exact ev_ix (ev_ix (ev_n 6) (ev_n 8) (at_rows hjl)) (ev_n 2) (shp_col sh hjl)
    · obtain ⟨j, hj, rfl⟩ := hat i d hd
      have hbest' : ∀ u v, (some0 c left)[u]? = some v → Kd.num (col c (left.getD j [])) ≤ Kd.num (col c (left.getD v [])) ∧ (u < i → Kd.num (col c (left.getD j [])) < Kd.num (col c (left.getD v []))) := fun u v huv => by
        have := hbest u (by rw [List.length_map, List.length_map]; exact (List.getElem?_eq_some_iff.mp huv).1)
        rw [gd hj, gd huv] at this
        exact this
      rw [hb.uniq hj hbest']
    have hrow : ∀ p ∈ enumR left, p.2.length = n := fun p m => sh.len _ (List.mem_of_getElem? (mem_enumR m).2)
    refine ru_cons (ru_set 5 sc_led.nd (ev_ix (ev_n 6) (ev_n 4) (at_rows hb.lt)) ?_)
    refine ru_cons (ru_set 6 sc_led.nd (d := rsD R (stepR c b left)) (ev_is (ev_lcA (enumR left) (fun p => .tup [.int (p.1 : Nat), rD R p.2]) (fun p => rD R (if p.1 = b then p.2 else lowR p.2 (left.getD b []) (Kd.quo (col c p.2) (col c (left.getD b []))))) [("at", 8), ("row", 7)] _ [8, 7] rfl sc_led.nd ((enumR_D (rD R) left) ▸ evi_enum fr.enum (ev_n 6)) rfl few (by simp) (fun x m s H C cl fp => evg_tup rfl (evgs_cons (evg_n 8 sc_led.nd) (evgs_cons (evg_n 7 sc_led.nd) evgs_nil)))
      (fun p m s H C cl fp => ev_if (k := decide (p.1 = b)) (evT_is (evT_eq (ev_n 8) (ev_n 4)) (dec_nat _ _)) (fun hk => ?_) (fun hk => ?_))) ?_) ?_)
    · rw [if_pos (of_decide_eq_true hk)]
      exact ev_n 7
    · rw [if_neg (of_decide_eq_false hk)]
      have hm := List.mem_of_getElem? (mem_enumR m).2
      exact ev_call F2' (Le.refl _) hr (eva_cons (ev_n 0) (eva_cons (ev_n 7) (eva_cons (ev_n 5) (eva_cons (ev_call F3' (Le.refl _) hr (eva_cons (ev_n 0) (eva_cons (ev_ix (ev_n 7) (ev_n 2) (hin p m)) (eva_cons (ev_ix (ev_n 5) (ev_n 2) (shp_col sh hb.lt)) eva_nil))) ⟨_, _, rfl, sz.sm _ hm _ (getD_mem 0 (by rw [hrow p m]; exact sh.col)), sz.pos, sz.few, rfl⟩) eva_nil))))
        ⟨_, _, _, rfl, by rw [hrow p m, hlb], by rw [hrow p m]; exact sh.wide, sz.sm _ (getD_mem [] hb.lt), sz.quo _ hm, rfl⟩
    · unfold rsD stepR
      rw [List.map_map]; rfl
    have sh' := sh.step hb.lt
    have few' : (enumR (stepR c b left)).length ≤ 1000000 := by
      unfold enumR; rw [List.length_zip, List.length_range, Nat.min_self]
      exact Nat.le_trans sh'.few (by decide)
    have hin' : ∀ p ∈ enumR (stepR c b left), atI (p.2.map (nI R)) (c : Int) = some (nI R (col c p.2)) := fun p m => at_row (by rw [sh'.len _ (List.mem_of_getElem? (mem_enumR m).2)]; exact sh'.col)
    have es' : ((enumR (stepR c b left)).filter fun p => !decide (p.1 = b) && !decide (Kd.num (col c p.2) = 0)).map (fun p => D.int (p.1 : Nat)) = (((((enumR (stepR c b left)).filter fun p => !decide (p.1 = b) && !decide (Kd.num (col c p.2) = 0)).map (·.1))).map fun i : Nat => (i : Int)).map D.int := by
      rw [List.map_map, List.map_map]; rfl
    have blen : ((stepR c b left).map (rD R)).length = left.length := by rw [List.length_map, stepR_length]
    have hblt := hb.lt
    refine ru_one (ru_if (k := ((((enumR (stepR c b left)).filter fun p => !decide (p.1 = b) && !decide (Kd.num (col c p.2) = 0)).map (·.1))).isEmpty) (evT_is (evT_eqNil hu (ev_is (ev_lc (enumR (stepR c b left)) (fun p => .tup [.int (p.1 : Nat), rD R p.2]) (fun p => !decide (p.1 = b) && !decide (Kd.num (col c p.2) = 0)) (fun p => .int (p.1 : Nat)) [("at", 8), ("row", 7)] _ [8, 7] rfl sc_led.nd ((enumR_D (rD R) (stepR c b left)) ▸ evi_enum fr.enum (ev_n 6)) rfl few' (by simp) (fun x m s H C cl fp => evg_tup rfl (evgs_cons (evg_n 8 sc_led.nd) (evgs_cons (evg_n 7 sc_led.nd) evgs_nil)))
      (fun p m s H C cl fp => evts_one (evT_w (evW_and (evT_is (evT_ne (ev_n 8) (ev_n 4)) (congrArg (fun z : Bool => !z) (dec_nat _ _))) fun _ => evW_and1 (evT_ne (ev_ix (ev_n 7) (ev_n 2) (hin' p m)) ev_int)))) (fun p m _ s H C cl fp => ev_n 8)) (congrArg D.lst es')) (ev_lst eva_nil)) (hse _)) (fun hk => ?_) (fun hk => ?_))
    · rcases hfin with ⟨hz, rfl, rfl⟩ | ⟨hz, _⟩
      · refine ru_one (ru_ret (ev_tup (eva_cons (ev_n 5) (eva_cons (ev_is (ev_cat (ev_sl (ev_n 6) evp_none (evp_some (ev_n 4))) (ev_sl (ev_n 6) (evp_some (ev_add (ev_n 4) ev_int)) evp_none) ?_) ?_) eva_nil))) ⟨rfl, rfl⟩)
        · rw [cut_to _ b, show ((b : Nat) : Int) + 1 = ((b + 1 : Nat) : Int) from rfl, cut_from _ (b + 1), List.length_take, List.length_drop]
          have := sh.few
          omega
        · rw [cut_to _ b, show ((b : Nat) : Int) + 1 = ((b + 1 : Nat) : Int) from rfl, cut_from _ (b + 1)]
          unfold rsD
          rw [List.map_append, List.map_take, List.map_drop]
      · exact absurd (List.isEmpty_iff.mp hk) hz
    · rcases hfin with ⟨hz, _⟩ | ⟨hz, m', rfl, hl'⟩
      · rw [hz] at hk; cases hk
      · exact ru_nil ⟨m', Nat.lt_succ_self _, rfl, stepR c b left, _, _, _, rfl, hl', sh'⟩
end
end PU
set_option Elab.async false
set_option linter.all false
set_option maxRecDepth 100000
set_option maxHeartbeats 4000000
/-! W4: grids. -/
namespace PU
open PySem PySem.Spec PyProof.Rows L2 LamX
section
variable {R : Type} [Kd R]
abbrev Lds (R : Type) := List (Nat × List R)
def kvL (R : Type) [Kd R] (l : Lds R) : List (Key × D) := l.map fun p => (.inl (p.1 : Int), rD R p.2)
def addL (o : Option (List R)) (i : Nat) (l : Lds R) : Lds R := match o with
  | some row => l ++ [(i, row)]
  | none => l
/-- the columns from i on, up to j -/
inductive Grw (n : Nat) : Nat → Nat → Lds R → List (List R) → Lds R → List (List R) → Prop
  | stop {i : Nat} {l : Lds R} {left : List (List R)} : Grw n i i l left l left
  | step {i j m : Nat} {l l2 : Lds R} {left out left2 : List (List R)} {o : Option (List R)} : i < j → Shp n i left → Led i m (left.map (upR i)) o out → Grw n (i + 1) j (addL o i l) out l2 left2 → Grw n i j l left l2 left2
theorem addL_keys {o : Option (List R)} {i : Nat} {l : Lds R} (h : ∀ p ∈ l, p.1 < i) : ∀ p ∈ addL o i l, p.1 < i + 1 := by
  cases o with
  | none => exact fun p hp => Nat.lt_succ_of_lt (h p hp)
  | some row =>
    intro p hp
    rcases List.mem_append.mp hp with q | q
    · exact Nat.lt_succ_of_lt (h p q)
    · simp only [List.mem_singleton] at q
      subst q; exact Nat.lt_succ_self _
theorem addL_len {o : Option (List R)} {i : Nat} {l : Lds R} : (addL o i l).length ≤ l.length + 1 := by
  cases o <;> simp [addL]
theorem putA_new {kvs : List (Key × D)} {k : Key} {v : D} (h : ∀ p ∈ kvs, p.1 ≠ k) : putA kvs k v = kvs ++ [(k, v)] := by
  unfold putA
  rw [if_neg]
  intro z
  obtain ⟨p, hp, e⟩ := List.any_eq_true.mp z
  exact h p hp (of_decide_eq_true e)
theorem kvL_put {l : Lds R} {i : Nat} {row : List R} (h : ∀ p ∈ l, p.1 < i) : putA (kvL R l) (.inl (i : Int)) (rD R row) = kvL R (l ++ [(i, row)]) := by
  rw [putA_new]
  · unfold kvL; rw [List.map_append]; rfl
  · intro p hp
    unfold kvL at hp
    obtain ⟨q, hq, rfl⟩ := List.mem_map.mp hp
    have := h q hq
    intro z
    have := Sum.inl.inj z
    omega
def sGrid (R : Type) [Kd R] (ds : List D) (d : D) : Prop := ∃ (rows left : List (List R)) (n width : Nat) (l : Lds R), ds = [.str (Kd.kind R), rsD R rows, .int width] ∧ width ≤ 1000 ∧ Grw n 0 width [] rows l left ∧ d = .tup [.dk (kvL R l), rsD R left]
end
section
variable {P : Program} {w : World} {K : Fg} {mg : Str → Option Value} {base : Heap} {TB : Th} {R : Type} [Kd R]
abbrev kgr : List Str := ["kind", "rows", "width", "found", "left", "column", "lead"]
theorem sc_grid : FnScope kgr ["kind", "rows", "width"] (defScope (top 37)) := ⟨rfl, rfl, rfl, by decide +kernel, rfl, by decide +kernel, by decide +kernel⟩
theorem w_grid {k : Nat} (to : TabOnly TB) (a : At K mg "grid_of" (top 37) ["kind", "rows", "width"]) (fr : Fr mg) (F : Df P w K mg base TB k "led" (sLed R)) : Df P w K mg base TB (k + 1) "grid_of" (sGrid R) :=
  mk_df to a sc_grid (by rintro ds d ⟨rows, left, n, width, l, rfl, _⟩; rfl) fun f cdv A outer s H E ds d hr ⟨rows, left, n, width, l, e1, h1, h2, e2⟩ => by
    subst e1 e2
    have hu : (BodyX P w K mg base kgr "grid_of" (top 37) f cdv A outer s H E).A.units + 1 < cLine := by
      have := hr.un
      omega
    refine ru_cons (ru_parN rfl sc_grid.nd (i := 3) (j := 4) (by decide) (evna_cons (evn_newD fun p hp => evna_of (eva_cons (ev_n 1) eva_nil) ⟨_, _, rfl, ?_⟩)))
    refine ru_cons (ru_for (fun i ρ T => ∃ (l' : Lds R) (left' : List (List R)) (v5 v6 : Option D), T = tset TB p (.dk (kvL R l')) ∧ ρ = [some (.str (Kd.kind R)), some (rsD R rows), some (.int width), some (.ptr p), some (rsD R left'), v5, v6] ∧ Grw n i width l' left' l left ∧ (∀ q ∈ l', q.1 < i) ∧ l'.length ≤ i) ⟨[], rows, none, none, rfl, rfl, h2, (fun _ h => nomatch h), Nat.le_refl _⟩ PassesOwn.never rfl (evi_range1 fr.range (ev_n 2) (by omega) (by omega)) (fun i d ρ T hd ⟨l', left', v5, v6, eT, eρ, hg, hk, hl⟩ => ?_) ?_)
    · subst eT eρ
      have hi : i < width := by
        have := (List.getElem?_eq_some_iff.mp hd).1
        simpa using this
      have ed : d = .int (i : Nat) := by
        rw [List.getElem?_map, List.getElem?_range (by simpa using hi)] at hd
        exact (Option.some.inj hd).symm
      subst ed
      cases hg with
      | stop => omega
      | step hij sh hled hrest =>
        rename_i m out o
        refine ⟨_, _, evg_n 5 sc_grid.nd, ?_⟩
        refine ru_cons (ru_asg (ev_call F ((Le.refl TB).tset hp) hr (eva_cons (ev_n 0) (eva_cons (ev_n 4) (eva_cons (ev_n 5) eva_nil))) ⟨left', i, n, m, o, out, rfl, sh, hled, rfl⟩) (evg_tup rfl (evgs_cons (evg_n 6 sc_grid.nd) (evgs_cons (evg_n 4 sc_grid.nd) evgs_nil))) ?_)
        cases o with
        | none =>
          exact ru_one (ru_if (k := false) (evT_is (evT_notN (ev_n 6)) rfl) nofun fun _ => ru_nil ⟨l', out, _, _, rfl, rfl, hrest, fun q hq => Nat.lt_succ_of_lt (hk q hq), by omega⟩)
        | some row =>
          refine ru_one (ru_if (k := true) (evT_is (evT_notN (ev_n 6)) rfl) (fun _ => ru_one (ru_dput (k := .inl (i : Int)) hu (ev_n 3) tset_same (ev_n 5) (ev_n 6) (by unfold kvL; rw [List.length_map]; omega) ⟨l' ++ [(i, row)], out, _, _, ?_, rfl, hrest, addL_keys (o := some row) hk, by simp; omega⟩)) nofun)
          rw [tset_tset, show oD R (some row) = rD R row from rfl, kvL_put hk]
    · rintro ρ T ⟨l', left', v5, v6, eT, eρ, hg, hk, hl⟩
      rw [show ((List.range (Int.toNat ((width : Nat) : Int))).map fun i => D.int (i : Nat)).length = width from by simp] at hg
      cases hg with
      | step h => omega
      | stop =>
        subst eT eρ
        refine ru_freeze 3 rfl tset_same ?_
        rw [tdel_tset hp]
        exact ru_one (ru_ret (ev_tup (eva_cons (ev_n 3) (eva_cons (ev_n 4) eva_nil))) ⟨rfl, rfl⟩)
end
end PU
set_option Elab.async false
set_option linter.all false
set_option maxRecDepth 100000
set_option maxHeartbeats 4000000
/-! W5: rows tidied, worked down, rested. -/
namespace PU
open PySem PySem.Spec PyProof.Rows L2 LamX
section
variable {R : Type} [Kd R]
theorem perm_sorted : ∀ {xs ys : List Int}, xs.Perm ys → xs.Pairwise (· ≤ ·) → ys.Pairwise (· < ·) → xs = ys
  | [], ys, h, _, _ => (List.nil_perm.mp h).symm
  | x :: xs, [], h, _, _ => absurd h.length_eq (by simp)
  | x :: xs, y :: ys, h, h1, h2 => by
    have e : x = y := by
      rcases List.mem_cons.mp (h.subset List.mem_cons_self) with a | a
      · exact a
      · rcases List.mem_cons.mp (h.symm.subset List.mem_cons_self) with b | b
        · exact b.symm
        · have := (List.pairwise_cons.mp h1).1 y b
          have := (List.pairwise_cons.mp h2).1 x a
          omega
    subst e
    rw [perm_sorted (List.Perm.cons_inv h) (List.pairwise_cons.mp h1).2 (List.pairwise_cons.mp h2).2]
/-- the keys from the least on -/
abbrev keysL (l : Lds R) : List Nat := l.map fun p => p.1
def Asc (l : Lds R) : Prop := (keysL l).Pairwise (· < ·)
theorem Asc.ints {l : Lds R} (h : Asc l) : ((l.map fun p => ((p.1 : Nat) : Int))).Pairwise (· < ·) := by
  unfold Asc at h
  rw [List.pairwise_map] at h ⊢
  exact h.imp fun h => by omega
theorem kvL_keys (l : Lds R) : (kvL R l).map (·.1) = (l.map fun p => ((p.1 : Nat) : Int)).map Sum.inl := by
  unfold kvL
  rw [List.map_map, List.map_map]; rfl
def lk (l : Lds R) (c : Nat) : Option (List R) := (l.find? fun p => decide (p.1 = c)).map (·.2)
theorem lk_D (l : Lds R) (c : Nat) : lookA (kvL R l) (.inl (c : Int)) = (lk l c).map (rD R) := by
  unfold lk lookA kvL
  induction l with
  | nil => rfl
  | cons p l ih =>
    rw [List.map_cons, List.find?_cons, List.find?_cons]
    have e : decide ((Sum.inl (p.1 : Int) : Key) = .inl (c : Int)) = decide (p.1 = c) := by
      rw [Bool.eq_iff_iff, decide_eq_true_eq, decide_eq_true_eq]
      refine ⟨fun h => by have := Sum.inl.inj h; omega, fun h => by rw [h]⟩
    simp only [e]
    cases decide (p.1 = c)
    · exact ih
    · rfl
/-- the row of a key is another one -/
def setL (l : Lds R) (c : Nat) (row : List R) : Lds R := l.map fun p => if p.1 = c then (p.1, row) else p
theorem setL_D (l : Lds R) (c : Nat) (row : List R) (h : (lk l c).isSome = true) : putA (kvL R l) (.inl (c : Int)) (rD R row) = kvL R (setL l c row) := by
  unfold putA
  rw [if_pos]
  · unfold kvL setL
    rw [List.map_map, List.map_map]
    apply List.map_congr_left
    intro p _
    show (if (Sum.inl (p.1 : Int) : Key) = .inl (c : Int) then _ else _) = (fun q : Nat × List R => ((Sum.inl (q.1 : Int) : Key), rD R q.2)) (if p.1 = c then (p.1, row) else p)
    by_cases e : p.1 = c
    · rw [if_pos (by rw [e]), if_pos e]
    · rw [if_neg (fun h => e (by have := Sum.inl.inj h; omega)), if_neg e]
  · unfold lk at h
    rw [Option.isSome_map, List.find?_isSome] at h
    obtain ⟨p, hp, e⟩ := h
    rw [List.any_eq_true]
    refine ⟨(.inl (p.1 : Int), rD R p.2), List.mem_map.mpr ⟨p, hp, rfl⟩, ?_⟩
    rw [of_decide_eq_true e]
    exact decide_eq_true rfl
theorem setL_keys (l : Lds R) (c : Nat) (row : List R) : keysL (setL l c row) = keysL l := by
  unfold setL keysL
  rw [List.map_map]
  apply List.map_congr_left
  intro p _
  show (if p.1 = c then (p.1, row) else p).1 = p.1
  split <;> rfl
/-- one row less another by the other's column -/
structure LoC (n c : Nat) (row lead : List R) : Prop where
  len : row.length = n
  len2 : lead.length = n
  wide : n ≤ 1000
  col : c < n
  sm : ∀ x ∈ lead, Sm x
  sr : Sm (PU.col c row)
  pos : 0 < Kd.num (PU.col c lead)
  few : bitsOf (Kd.num (PU.col c lead)) ≤ 9000
  quo : Sm (Kd.quo (PU.col c row) (PU.col c lead))
def lowC (c : Nat) (row lead : List R) : List R := lowR row lead (Kd.quo (col c row) (col c lead))
/-- the rows ahead of a column's are tidied by it -/
inductive TdI (n c : Nat) : List Nat → Lds R → Lds R → Prop
  | stop {l : Lds R} : TdI n c [] l l
  | step {e : Nat} {es : List Nat} {l out : Lds R} {row lead : List R} : lk l e = some row → lk l c = some lead → LoC n c row lead → TdI n c es (setL l e (lowC c row lead)) out → TdI n c (e :: es) l out
/-- column by column: those done, those to come -/
inductive TdO (n : Nat) (ks : List Nat) : Nat → Lds R → Lds R → Prop
  | stop {l : Lds R} : TdO n ks ks.length l l
  | step {i c : Nat} {l mid out : Lds R} : ks[i]? = some c → TdI n c (ks.take i) l mid → TdO n ks (i + 1) mid out → TdO n ks i l out
def sTidy (R : Type) [Kd R] (ds : List D) (d : D) : Prop := ∃ (l out : Lds R) (n : Nat), ds = [.str (Kd.kind R), .dk (kvL R l)] ∧ Asc l ∧ l.length < 60 ∧ TdO n (keysL l) 0 l out ∧ d = .dk (kvL R out)
/-- a row is worked down -/
inductive Wrk (n : Nat) (l : Lds R) (j : Nat) : Nat → List R → List R → Option Nat → Prop
  | fin {row : List R} : Wrk n l j j row row none
  | low {i : Nat} {row lead out : List R} {s : Option Nat} : i < j → lk l i = some lead → LoC n i row lead → Kd.num (Kd.rem (col i row) (col i lead)) = 0 → Wrk n l j (i + 1) (lowC i row lead) out s → Wrk n l j i row out s
  | pass {i : Nat} {row out : List R} {s : Option Nat} : i < j → row.length = n → i < n → (∀ lead, lk l i = some lead → LoC n i row lead ∧ Kd.num (Kd.rem (col i row) (col i lead)) ≠ 0) → Kd.num (col i row) = 0 → Wrk n l j (i + 1) row out s → Wrk n l j i row out s
  | halt {i : Nat} {row : List R} : i < j → row.length = n → i < n → (∀ lead, lk l i = some lead → LoC n i row lead ∧ Kd.num (Kd.rem (col i row) (col i lead)) ≠ 0) → Kd.num (col i row) ≠ 0 → Wrk n l j i row row (some i)
def stD : Option Nat → D
  | none => .non
  | some i => .int (i : Nat)
def sWork (R : Type) [Kd R] (ds : List D) (d : D) : Prop := ∃ (l : Lds R) (n width : Nat) (row out : List R) (s : Option Nat), ds = [.str (Kd.kind R), .dk (kvL R l), rD R row, .int width] ∧ width ≤ 1000 ∧ Wrk n l width 0 row out s ∧ d = .tup [rD R out, stD s]
/-- a row less as much of rows as their columns have of it -/
inductive Rst (n : Nat) (l : Lds R) : List Nat → List R → List R → Prop
  | stop {row : List R} : Rst n l [] row row
  | step {c : Nat} {cs : List Nat} {row lead out : List R} : lk l c = some lead → LoC n c row lead → Rst n l cs (lowC c row lead) out → Rst n l (c :: cs) row out
def sRst (R : Type) [Kd R] (ds : List D) (d : D) : Prop := ∃ (l : Lds R) (n : Nat) (row out : List R), ds = [.str (Kd.kind R), .dk (kvL R l), rD R row] ∧ Asc l ∧ l.length < 60 ∧ Rst n l (keysL l) row out ∧ d = rD R out
theorem LoC.at {n c : Nat} {row lead : List R} (h : LoC n c row lead) : atI (row.map (nI R)) (c : Int) = some (nI R (PU.col c row)) ∧ atI (lead.map (nI R)) (c : Int) = some (nI R (PU.col c lead)) :=
  ⟨at_row (by rw [h.len]; exact h.col), at_row (by rw [h.len2]; exact h.col)⟩
end
section
variable {P : Program} {w : World} {K : Fg} {mg : Str → Option Value} {base : Heap} {TB : Th} {R : Type} [Kd R]
abbrev krs : List Str := ["kind", "leads", "row", "column"]
theorem sc_rest2 : FnScope krs ["kind", "leads", "row"] (defScope (top 40)) := ⟨rfl, rfl, rfl, by decide +kernel, rfl, by decide +kernel, by decide +kernel⟩
theorem w_rested {k : Nat} (to : TabOnly TB) (a : At K mg "rested" (top 40) ["kind", "leads", "row"]) (fr : Fr mg) (F1 : Df P w K mg base TB k "lowered" (sLow R)) (F2 : Df P w K mg base TB k "over_in" (sQuo R)) : Df P w K mg base TB (k + 1) "rested" (sRst R) :=
  mk_df to a sc_rest2 (by rintro ds d ⟨l, n, row, out, rfl, _⟩; rfl) fun f cdv A outer s H E ds d hr ⟨l, n, row, out, e1, h1, h2, h3, e2⟩ => by
    subst e1 e2
    have hu : (BodyX P w K mg base krs "rested" (top 40) f cdv A outer s H E).A.units + 1 < cLine := by
      have := hr.un
      omega
    refine ru_cons (ru_for (fun i ρ T => T = TB ∧ ∃ (row' : List R) (v : Option D), ρ = [some (.str (Kd.kind R)), some (.dk (kvL R l)), some (rD R row'), v] ∧ Rst n l ((keysL l).drop i) row' out) ⟨rfl, row, none, rfl, h3⟩ PassesOwn.never rfl (evi_list (ev_sortedDI fr.sorted rfl (ev_n 1) (.fz _) (kvL_keys l) (by rw [List.length_map]; omega) (fun ys hp hs => perm_sorted hp hs h1.ints))) (fun i d ρ T hd ⟨eT, row', v, eρ, hR⟩ => ?_) ?_)
    · subst eT eρ
      rw [List.map_map, List.getElem?_map] at hd
      cases z : l[i]? with
      | none => rw [z] at hd; cases hd
      | some p =>
        rw [z] at hd
        have ed : d = .int ((p.1 : Nat) : Int) := (Option.some.inj hd).symm
        subst ed
        have hil := (List.getElem?_eq_some_iff.mp z).1
        have ep : l[i] = p := (List.getElem?_eq_some_iff.mp z).2
        rw [List.drop_eq_getElem_cons (by rw [List.length_map]; exact hil), List.getElem_map, ep] at hR
        cases hR with
        | step k1 k2 k3 =>
          rename_i lead
          refine ⟨_, _, evg_n 3 sc_rest2.nd, ?_⟩
          have hg : ∀ {ρ : Rho} {e1 e2 : Expr} {pos : Pos} {X : Cx} , X.A.units + 1 < cLine → Ev X e1 ρ T (.dk (kvL R l)) → Ev X e2 ρ T (.int ((p.1 : Nat) : Int)) → NoSl e2 → Ev X (.Subscript e1 e2 pos) ρ T (rD R lead) := fun hu' h1 h2 hs => ev_dget (k := .inl ((p.1 : Nat) : Int)) hu' h1 (.fz _) h2 (by rw [lk_D, k1]; rfl) hs
          refine ru_one (ru_set 2 sc_rest2.nd (ev_call F1 (Le.refl _) hr (eva_cons (ev_n 0) (eva_cons (ev_n 2) (eva_cons (hg hu (ev_n 1) (ev_n 3) (fun _ _ => rfl)) (eva_cons (ev_call F2 (Le.refl _) hr (eva_cons (ev_n 0) (eva_cons (ev_ix (ev_n 2) (ev_n 3) k2.at.1) (eva_cons (ev_ix (hg hu (ev_n 1) (ev_n 3) (fun _ _ => rfl)) (ev_n 3) k2.at.2) eva_nil))) ⟨_, _, rfl, k2.sr, k2.pos, k2.few, rfl⟩) eva_nil)))) ⟨row', lead, _, rfl, by rw [k2.len, k2.len2], by rw [k2.len]; exact k2.wide, k2.sm, k2.quo, rfl⟩) ⟨rfl, _, _, rfl, k3⟩)
    · rintro ρ T ⟨eT, row', v, eρ, hR⟩
      subst eT eρ
      rw [show (((l.map fun p => ((p.1 : Nat) : Int))).map D.int).length = (keysL l).length by simp, List.drop_length] at hR
      cases hR
      exact ru_one (ru_ret (ev_n 2) ⟨rfl, rfl⟩)

theorem evT_is' {X : Cx} {e : Expr} {ρ : Rho} {T : Th} {x y : Bool} (h : EvW X e ρ T x) (q : x = y) : EvW X e ρ T y := q ▸ h
theorem ev_ld {X : Cx} {ρ : Rho} {T : Th} {e1 e2 : Expr} {pos : Pos} {d : D} {l : Lds R} {c : Nat} {row : List R} (hu : X.A.units + 1 < cLine) (h1 : Ev X e1 ρ T d) (hc : Ct T d (.dk (kvL R l))) (h2 : Ev X e2 ρ T (.int (c : Nat))) (hk : lk l c = some row) (hs : NoSl e2 := by exact fun _ _ => rfl) : Ev X (.Subscript e1 e2 pos) ρ T (rD R row) :=
  ev_dget (k := .inl (c : Int)) hu h1 hc h2 (by rw [lk_D, hk]; rfl) hs
abbrev kwk : List Str := ["kind", "leads", "row", "width", "column"]
theorem sc_worked : FnScope kwk ["kind", "leads", "row", "width"] (defScope (top 39)) := ⟨rfl, rfl, rfl, by decide +kernel, rfl, by decide +kernel, by decide +kernel⟩
theorem w_worked {k : Nat} (to : TabOnly TB) (a : At K mg "worked" (top 39) ["kind", "leads", "row", "width"]) (fr : Fr mg) (F1 : Df P w K mg base TB k "lowered" (sLow R)) (F2 : Df P w K mg base TB k "over_in" (sQuo R)) (F3 : Df P w K mg base TB k "is_multiple_in" (sMult R)) : Df P w K mg base TB (k + 1) "worked" (sWork R) :=
  mk_df to a sc_worked (by rintro ds d ⟨l, n, width, row, out, s, rfl, _⟩; rfl) fun f cdv A outer s H E ds d hr ⟨l, n, width, row, out, st, e1, h1, h2, e2⟩ => by
    subst e1 e2
    have hu : (BodyX P w K mg base kwk "worked" (top 39) f cdv A outer s H E).A.units + 1 < cLine := by
      have := hr.un
      omega
    refine ru_cons (ru_for (fun i ρ T => T = TB ∧ ∃ (row' : List R) (v : Option D), ρ = [some (.str (Kd.kind R)), some (.dk (kvL R l)), some (rD R row'), some (.int width), v] ∧ Wrk n l width i row' out st) ⟨rfl, row, none, rfl, h2⟩ PassesOwn.never rfl (evi_range1 fr.range (ev_n 3) (by omega) (by omega)) (fun i d ρ T hd ⟨eT, row', v, eρ, hW⟩ => ?_) ?_)
    · subst eT eρ
      have hi : i < width := by
        have := (List.getElem?_eq_some_iff.mp hd).1
        simpa using this
      have ed : d = .int (i : Nat) := by
        rw [List.getElem?_map, List.getElem?_range (by simpa using hi)] at hd
        exact (Option.some.inj hd).symm
      subst ed
      refine ⟨_, _, evg_n 4 sc_worked.nd, ?_⟩
      have tin : EvT (BodyX P w K mg base kwk "worked" (top 39) f cdv A outer s H E) (match (defBody (top 39)).getD 0 (.Pass ⟨0, 0, 0, 0⟩) with
          | .For _ _ (.If (.BoolOp _ (e :: _) _) _ _ _ :: _) _ _ => e
          | _ => .Constant .none 0 ⟨0, 0, 0, 0⟩) [some (.str (Kd.kind R)), some (.dk (kvL R l)), some (rD R row'), some (.int width), some (.int (i : Nat))] T (lk l i).isSome := by
        refine evT_is (evT_din (k := .inl (i : Int)) hu (ev_n 4) (ev_n 1) (.fz _)) (by rw [lk_D, Option.isSome_map])
      have tin2 : ∀ lead, lk l i = some lead → LoC n i row' lead → EvT (BodyX P w K mg base kwk "worked" (top 39) f cdv A outer s H E) (match (defBody (top 39)).getD 0 (.Pass ⟨0, 0, 0, 0⟩) with
          | .For _ _ (.If (.BoolOp _ (_ :: e :: _) _) _ _ _ :: _) _ _ => e
          | _ => .Constant .none 0 ⟨0, 0, 0, 0⟩) [some (.str (Kd.kind R)), some (.dk (kvL R l)), some (rD R row'), some (.int width), some (.int (i : Nat))] T (decide (Kd.num (Kd.rem (col i row') (col i lead)) = 0)) := fun lead hk hc =>
        evT_val (ev_call F3 (Le.refl _) hr (eva_cons (ev_n 0) (eva_cons (ev_ix (ev_n 2) (ev_n 4) hc.at.1) (eva_cons (ev_ix (ev_ld hu (ev_n 1) (.fz _) (ev_n 4) hk) (ev_n 4) hc.at.2) eva_nil))) ⟨_, _, rfl, hc.sr, Int.le_of_lt hc.pos, hc.few, rfl⟩)
      have other : row'.length = n → i < n → EvT (BodyX P w K mg base kwk "worked" (top 39) f cdv A outer s H E) (match (defBody (top 39)).getD 0 (.Pass ⟨0, 0, 0, 0⟩) with
          | .For _ _ (.If _ _ (.If e _ _ _ :: _) _ :: _) _ _ => e
          | _ => .Constant .none 0 ⟨0, 0, 0, 0⟩) [some (.str (Kd.kind R)), some (.dk (kvL R l)), some (rD R row'), some (.int width), some (.int (i : Nat))] T (!decide (Kd.num (col i row') = 0)) := fun hl hin =>
        evT_ne (ev_ix (ev_n 2) (ev_n 4) (at_row (by rw [hl]; exact hin))) ev_int
      have nof : (∀ lead, lk l i = some lead → LoC n i row' lead ∧ Kd.num (Kd.rem (col i row') (col i lead)) ≠ 0) → ∃ k2, EvT (BodyX P w K mg base kwk "worked" (top 39) f cdv A outer s H E) (match (defBody (top 39)).getD 0 (.Pass ⟨0, 0, 0, 0⟩) with
          | .For _ _ (.If e _ _ _ :: _) _ _ => e
          | _ => .Constant .none 0 ⟨0, 0, 0, 0⟩) [some (.str (Kd.kind R)), some (.dk (kvL R l)), some (rD R row'), some (.int width), some (.int (i : Nat))] T false ∧ k2 = () := fun hno => by
        refine ⟨(), ?_, rfl⟩
        cases hk : lk l i with
        | none => exact evT_w (evT_is' (evW_and (k := false) (l := false) (evT_is tin (by simp [hk])) nofun) rfl)
        | some lead =>
          obtain ⟨hc, hm⟩ := hno lead hk
          exact evT_w (evT_is' (evW_and (k := true) (evT_is tin (by simp [hk])) fun _ => evW_and1 (tin2 lead hk hc)) (by rw [decide_eq_false hm]; rfl))
      cases hW with
      | fin => omega
      | low hlt hk hc hm hrest =>
        rename_i lead
        refine ru_one (ru_if (k := true) (evT_w (evT_is' (evW_and (k := true) (evT_is tin (by simp [hk])) fun _ => evW_and1 (tin2 lead hk hc)) (by rw [decide_eq_true hm]; rfl))) (fun _ => ?_) nofun)
        exact ru_one (ru_set 2 sc_worked.nd (ev_call F1 (Le.refl _) hr (eva_cons (ev_n 0) (eva_cons (ev_n 2) (eva_cons (ev_ld hu (ev_n 1) (.fz _) (ev_n 4) hk) (eva_cons (ev_call F2 (Le.refl _) hr (eva_cons (ev_n 0) (eva_cons (ev_ix (ev_n 2) (ev_n 4) hc.at.1) (eva_cons (ev_ix (ev_ld hu (ev_n 1) (.fz _) (ev_n 4) hk) (ev_n 4) hc.at.2) eva_nil))) ⟨_, _, rfl, hc.sr, hc.pos, hc.few, rfl⟩) eva_nil)))) ⟨row', lead, _, rfl, by rw [hc.len, hc.len2], by rw [hc.len]; exact hc.wide, hc.sm, hc.quo, rfl⟩) ⟨rfl, _, _, rfl, hrest⟩)
      | pass _ hl hin hno hz hrest =>
        obtain ⟨_, t1, _⟩ := nof hno
        exact ru_one (ru_if (k := false) t1 nofun fun _ => ru_one (ru_if (k := false) (evT_is (other hl hin) (by rw [decide_eq_true hz]; rfl)) nofun fun _ => ru_nil ⟨rfl, _, _, rfl, hrest⟩))
      | halt _ hl hin hno hz =>
        obtain ⟨_, t1, _⟩ := nof hno
        exact ru_one (ru_if (k := false) t1 nofun fun _ => ru_one (ru_if (k := true) (evT_is (other hl hin) (by rw [decide_eq_false hz]; rfl)) (fun _ => ru_one (ru_ret (ev_tup (eva_cons (ev_n 2) (eva_cons (ev_n 4) eva_nil))) ⟨rfl, rfl⟩)) nofun))
    · rintro ρ T ⟨eT, row', v, eρ, hW⟩
      subst eT eρ
      rw [show ((List.range (Int.toNat ((width : Nat) : Int))).map fun i => D.int (i : Nat)).length = width from by simp] at hW
      cases hW with
      | fin => exact ru_one (ru_ret (ev_tup (eva_cons (ev_n 2) (eva_cons ev_non eva_nil))) ⟨rfl, rfl⟩)
      | low h => omega
      | pass h => omega
      | halt h => omega

theorem enumD_get {ds : List D} {i : Nat} {d : D} (h : (enumD ds)[i]? = some d) : ∃ x, ds[i]? = some x ∧ d = .tup [.int (i : Nat), x] := by
  unfold enumD at h
  rw [List.getElem?_zipWith] at h
  cases h2 : ds[i]? with
  | none => rw [h2] at h; simp at h
  | some x =>
    have hi := (List.getElem?_eq_some_iff.mp h2).1
    rw [h2, List.getElem?_range hi] at h
    exact ⟨x, rfl, (Option.some.inj h).symm⟩
abbrev ktd : List Str := ["kind", "leads", "found", "columns", "at", "column", "early", "often"]
theorem sc_tidied : FnScope ktd ["kind", "leads"] (defScope (top 38)) := ⟨rfl, rfl, rfl, by decide +kernel, rfl, by decide +kernel, by decide +kernel⟩
theorem ksD (l : Lds R) : (l.map fun p => ((p.1 : Nat) : Int)).map D.int = (keysL l).map fun i : Nat => D.int (i : Nat) := by
  unfold keysL
  rw [List.map_map, List.map_map]; rfl
theorem w_tidied {k : Nat} (to : TabOnly TB) (a : At K mg "tidied" (top 38) ["kind", "leads"]) (fr : Fr mg) (F1 : Df P w K mg base TB k "lowered" (sLow R)) (F2 : Df P w K mg base TB k "over_in" (sQuo R)) : Df P w K mg base TB (k + 1) "tidied" (sTidy R) :=
  mk_df to a sc_tidied (by rintro ds d ⟨l, out, n, rfl, _⟩; rfl) fun f cdv A outer s H E ds d hr ⟨l, out, n, e1, h1, h2, h3, e2⟩ => by
    subst e1 e2
    have hu : (BodyX P w K mg base ktd "tidied" (top 38) f cdv A outer s H E).A.units + 1 < cLine := by
      have := hr.un
      omega
    have hlen : (keysL l).length = l.length := by unfold keysL; rw [List.length_map]
    refine ru_cons (ru_setN 2 sc_tidied.nd (evn_dict fr.dict (ev_n 1) (.fz _) fun p hp => ?_))
    refine ru_cons (ru_set 3 sc_tidied.nd (d := .lst ((keysL l).map fun i : Nat => D.int (i : Nat))) (ev_is (ev_sortedDI fr.sorted rfl (ev_n 2) (.own tset_same) (kvL_keys l) (by rw [List.length_map]; omega) (fun ys hp hs => perm_sorted hp hs h1.ints)) (congrArg D.lst (ksD l))) ?_)
    refine ru_cons (ru_for (fun i ρ T => ∃ (l' : Lds R) (v4 v5 v6 v7 : Option D), T = tset TB p (.dk (kvL R l')) ∧ ρ = [some (.str (Kd.kind R)), some (.dk (kvL R l)), some (.ptr p), some (.lst ((keysL l).map fun i : Nat => D.int (i : Nat))), v4, v5, v6, v7] ∧ TdO n (keysL l) i l' out ∧ l'.length = l.length) ⟨l, none, none, none, none, rfl, rfl, h3, rfl⟩ PassesOwn.never rfl (evi_enum fr.enum (ev_n 3)) (fun i d ρ T hd ⟨l', v4, v5, v6, v7, eT, eρ, hO, hll⟩ => ?_) ?_)
    · subst eT eρ
      obtain ⟨x, hx, rfl⟩ := enumD_get hd
      rw [List.getElem?_map] at hx
      cases z : (keysL l)[i]? with
      | none => rw [z] at hx; cases hx
      | some c =>
        rw [z] at hx
        cases (Option.some.inj hx)
        have hi := (List.getElem?_eq_some_iff.mp z).1
        cases hO with
        | stop => omega
        | step k1 k2 k3 =>
          rename_i c' mid
          rw [z] at k1
          cases (Option.some.inj k1)
          refine ⟨_, _, evg_tup rfl (evgs_cons (evg_n 4 sc_tidied.nd) (evgs_cons (evg_n 5 sc_tidied.nd) evgs_nil)), ?_⟩
          refine ru_one (ru_for (ds := ((keysL l).take i).map fun i : Nat => D.int (i : Nat)) (fun j ρ T => ∃ (l2 : Lds R) (v6 v7 : Option D), T = tset TB p (.dk (kvL R l2)) ∧ ρ = [some (.str (Kd.kind R)), some (.dk (kvL R l)), some (.ptr p), some (.lst ((keysL l).map fun i : Nat => D.int (i : Nat))), some (.int (i : Nat)), some (.int (c : Nat)), v6, v7] ∧ TdI n c (((keysL l).take i).drop j) l2 mid ∧ l2.length = l.length) ⟨l', v6, v7, rfl, rfl, k2, hll⟩ PassesOwn.never rfl ?_ (fun j d ρ T hd ⟨l2, v6, v7, eT, eρ, hI, hl2⟩ => ?_) ?_)
          · have e := cut_to ((keysL l).map fun i : Nat => D.int (i : Nat)) i
            rw [← List.map_take] at e
            exact evi_list (ev_is (ev_sl (ev_n 3) evp_none (evp_some (ev_n 4))) (congrArg D.lst e))
          · subst eT eρ
            rw [List.getElem?_map] at hd
            cases z2 : ((keysL l).take i)[j]? with
            | none => rw [z2] at hd; cases hd
            | some e =>
              rw [z2] at hd
              cases (Option.some.inj hd)
              have hj := (List.getElem?_eq_some_iff.mp z2).1
              have ej : ((keysL l).take i)[j] = e := (List.getElem?_eq_some_iff.mp z2).2
              rw [List.drop_eq_getElem_cons hj, ej] at hI
              cases hI with
              | step q1 q2 q3 q4 =>
                rename_i row lead
                refine ⟨_, _, evg_n 6 sc_tidied.nd, ?_⟩
                have le : Le TB (tset TB p (.dk (kvL R l2))) := (Le.refl TB).tset hp
                refine ru_cons (ru_set 7 sc_tidied.nd (ev_call F2 le hr (eva_cons (ev_n 0) (eva_cons (ev_ix (ev_ld hu (ev_n 2) (.own tset_same) (ev_n 6) q1) (ev_n 5) q3.at.1) (eva_cons (ev_ix (ev_ld hu (ev_n 2) (.own tset_same) (ev_n 5) q2) (ev_n 5) q3.at.2) eva_nil))) ⟨_, _, rfl, q3.sr, q3.pos, q3.few, rfl⟩) ?_)
                refine ru_one (ru_dput (k := .inl (e : Int)) hu (ev_n 2) tset_same (ev_n 6) (ev_call F1 le hr (eva_cons (ev_n 0) (eva_cons (ev_ld hu (ev_n 2) (.own tset_same) (ev_n 6) q1) (eva_cons (ev_ld hu (ev_n 2) (.own tset_same) (ev_n 5) q2) (eva_cons (ev_n 7) eva_nil)))) ⟨row, lead, _, rfl, by rw [q3.len, q3.len2], by rw [q3.len]; exact q3.wide, q3.sm, q3.quo, rfl⟩) (by unfold kvL; rw [List.length_map]; omega) ⟨_, _, _, ?_, rfl, q4, by unfold setL; rw [List.length_map]; exact hl2⟩)
                rw [tset_tset]
                show tset TB p (.dk (putA (kvL R l2) (.inl (e : Int)) (rD R (lowC c row lead)))) = _
                rw [setL_D l2 e _ (by rw [q1]; rfl)]
          · rintro ρ T ⟨l2, v6, v7, eT, eρ, hI, hl2⟩
            subst eT eρ
            rw [List.length_map, List.drop_length] at hI
            cases hI
            exact ⟨_, _, _, _, _, rfl, rfl, k3, hl2⟩
    · rintro ρ T ⟨l', v4, v5, v6, v7, eT, eρ, hO, hll⟩
      subst eT eρ
      rw [show (enumD ((keysL l).map fun i : Nat => D.int (i : Nat))).length = (keysL l).length by unfold enumD; simp] at hO
      have fin : l' = out := by
        cases hO with
        | stop => rfl
        | step k1 => have := (List.getElem?_eq_some_iff.mp k1).1; omega
      subst fin
      refine ru_freeze 2 rfl tset_same ?_
      rw [tdel_tset hp]
      exact ru_one (ru_ret (ev_n 2) ⟨rfl, rfl⟩)
end
end PU
set_option Elab.async false
set_option linter.all false
set_option maxRecDepth 100000
set_option maxHeartbeats 4000000
/-! W6: what a scale is held for. -/
namespace PU
open PySem PySem.Spec PyProof.Rows L2 LamX
theorem op_geX {X : Cx} : OpR X (compareOp .GtE) (fun x y H Q => ∃ i j, x = .str i ∧ y = .str j ∧ Q (.bl (!decide (i.cps.toList < j.cps.toList))) H) := by
  intro pins s σ H x y v u Q I rx ry h
  obtain ⟨i, j, rfl, rfl, q⟩ := h
  obtain ⟨t, rfl⟩ := rx
  obtain ⟨t', rfl⟩ := ry
  exact P.ge_str (fin_bl I q rfl)
section
variable {X : Cx} {a b elt tg iter : Expr} {ifs : List Expr} {scope : Scope} {pos : Pos} {ρ : Rho} {T : Th}
theorem evT_geS {i j : Str} (ha : Ev X a ρ T (.str i)) (hb : Ev X b ρ T (.str j)) : EvT X (.Compare a [.GtE] [b] pos) ρ T (!decide (i.cps.toList < j.cps.toList)) :=
  evT_cmp op_geX ha hb (fun x y Hf Hr H w hx hy Q q => ⟨i, j, is_str.mp hx, is_str.mp hy, q _ H Hf (Ex.refl _) w (is_bl.mpr rfl)⟩) (nomark _)
/-- nothing is taken -/
theorem ev_lcZ {α : Type} (xs : List α) (φ : α → D) (own : List (Str × Nat)) (ρ' : α → Rho) (js : List Nat) (hc : X.calm = true) (hN : X.N.Nodup) (hi : EvI X tg iter ρ T (xs.map φ)) (ok : blkC X.N X.env.scope scope own = true) (hl : xs.length ≤ 1000000) (hjs : ∀ j ∈ js, j ∈ own.map (·.2))
    (hg : ∀ x, x ∈ xs → ∀ s H C cl fp, EvG (BX X s H scope cl C fp) tg (φ x) (wipeR ρ (own.map (·.2))) (ρ' x) js)
    (ht : ∀ x, x ∈ xs → ∀ s H C cl fp, EvTs (BX X s H scope cl C fp) ifs (ρ' x) T false) (hs : ∀ x, foldedSetIterable iter X.env x = pure x := by intro _; rfl) :
    Ev X (.ListComp elt [⟨tg, iter, ifs, 0⟩] scope pos) ρ T (.lst []) :=
  ev_is (ev_lc xs φ (fun _ => false) φ own ρ' js hc hN hi ok hl hjs hg ht (fun x m h => nomatch h) hs) (by rw [List.filter_eq_nil_iff.mpr (fun _ _ => Bool.false_ne_true)]; rfl)
end
section
variable {X : Cx} {a : Expr} {ρ : Rho} {T : Th} {pos p p2 : Pos} {d1 : D} {n : String} {r : Bool}
theorem ev_gS {x z : Str} {t : Tok} (hm : X.mg x = some (.str z t)) (hg : Gl X x := by rfl) (hd : (x == ("__debug__" : Str)) = false := by decide) : Ev X (.Name x pos) ρ T (.str z) := ev_glob (v := .str z) hm ⟨t, rfl⟩ (fun _ => is_str.mpr rfl) hg hd
theorem ev_gI {x : Str} {z : Int} {t : Tok} (hm : X.mg x = some (.int z t)) (hg : Gl X x := by rfl) (hd : (x == ("__debug__" : Str)) = false := by decide) : Ev X (.Name x pos) ρ T (.int z) := ev_glob (v := .int z) hm ⟨t, rfl⟩ (fun _ => is_int.mpr rfl) hg hd
theorem ii_int (fr : Fr X.mg) (ha : Ev X a ρ T d1) (ht : tyName d1 = some n := by rfl) (hk : kitB n "int" = some r := by decide +kernel) (hg : Gl X "isinstance" := by rfl) (hg2 : Gl X "int" := by rfl) (he : starEach [a, .Name "int" p2] X.env = (false, eval a X.env) :: starEach [.Name "int" p2] X.env := by rfl) (he2 : starEach [.Name "int" p2] X.env = (false, eval (.Name "int" p2) X.env) :: starEach [] X.env := by rfl) (hpl : (backTo pos (starEach [.Name "int" p2] X.env)).any (·.1) = false := by rfl) : Ev X (.Call (.Name "isinstance" p) [a, .Name "int" p2] [] pos) ρ T (.bl r) :=
  ev_isi (m := "int") fr.isi ha (ev_ty fr.int (by decide +kernel) hg2) ht hk hg he he2 hpl
theorem ii_bool (fr : Fr X.mg) (ha : Ev X a ρ T d1) (ht : tyName d1 = some n := by rfl) (hk : kitB n "bool" = some r := by decide +kernel) (hg : Gl X "isinstance" := by rfl) (hg2 : Gl X "bool" := by rfl) (he : starEach [a, .Name "bool" p2] X.env = (false, eval a X.env) :: starEach [.Name "bool" p2] X.env := by rfl) (he2 : starEach [.Name "bool" p2] X.env = (false, eval (.Name "bool" p2) X.env) :: starEach [] X.env := by rfl) (hpl : (backTo pos (starEach [.Name "bool" p2] X.env)).any (·.1) = false := by rfl) : Ev X (.Call (.Name "isinstance" p) [a, .Name "bool" p2] [] pos) ρ T (.bl r) :=
  ev_isi (m := "bool") fr.isi ha (ev_ty fr.bool (by decide +kernel) hg2) ht hk hg he he2 hpl
theorem ii_str (fr : Fr X.mg) (ha : Ev X a ρ T d1) (ht : tyName d1 = some n := by rfl) (hk : kitB n "str" = some r := by decide +kernel) (hg : Gl X "isinstance" := by rfl) (hg2 : Gl X "str" := by rfl) (he : starEach [a, .Name "str" p2] X.env = (false, eval a X.env) :: starEach [.Name "str" p2] X.env := by rfl) (he2 : starEach [.Name "str" p2] X.env = (false, eval (.Name "str" p2) X.env) :: starEach [] X.env := by rfl) (hpl : (backTo pos (starEach [.Name "str" p2] X.env)).any (·.1) = false := by rfl) : Ev X (.Call (.Name "isinstance" p) [a, .Name "str" p2] [] pos) ρ T (.bl r) :=
  ev_isi (m := "str") fr.isi ha (ev_ty fr.str (by decide +kernel) hg2) ht hk hg he he2 hpl
theorem ii_list (fr : Fr X.mg) (ha : Ev X a ρ T d1) (ht : tyName d1 = some n := by rfl) (hk : kitB n "list" = some r := by decide +kernel) (hg : Gl X "isinstance" := by rfl) (hg2 : Gl X "list" := by rfl) (he : starEach [a, .Name "list" p2] X.env = (false, eval a X.env) :: starEach [.Name "list" p2] X.env := by rfl) (he2 : starEach [.Name "list" p2] X.env = (false, eval (.Name "list" p2) X.env) :: starEach [] X.env := by rfl) (hpl : (backTo pos (starEach [.Name "list" p2] X.env)).any (·.1) = false := by rfl) : Ev X (.Call (.Name "isinstance" p) [a, .Name "list" p2] [] pos) ρ T (.bl r) :=
  ev_isi (m := "list") fr.isi ha (ev_ty fr.list (by decide +kernel) hg2) ht hk hg he he2 hpl
theorem ii_tuple (fr : Fr X.mg) (ha : Ev X a ρ T d1) (ht : tyName d1 = some n := by rfl) (hk : kitB n "tuple" = some r := by decide +kernel) (hg : Gl X "isinstance" := by rfl) (hg2 : Gl X "tuple" := by rfl) (he : starEach [a, .Name "tuple" p2] X.env = (false, eval a X.env) :: starEach [.Name "tuple" p2] X.env := by rfl) (he2 : starEach [.Name "tuple" p2] X.env = (false, eval (.Name "tuple" p2) X.env) :: starEach [] X.env := by rfl) (hpl : (backTo pos (starEach [.Name "tuple" p2] X.env)).any (·.1) = false := by rfl) : Ev X (.Call (.Name "isinstance" p) [a, .Name "tuple" p2] [] pos) ρ T (.bl r) :=
  ev_isi (m := "tuple") fr.isi ha (ev_ty fr.tuple (by decide +kernel) hg2) ht hk hg he he2 hpl
end
/-! ### numbers and kinds -/
section
variable {P : Program} {w : World} {K : Fg} {mg : Str → Option Value} {base : Heap} {TB : Th} {R : Type} [Kd R]
/-- which kind it is -/
class KdL (R : Type) [Kd R] : Prop where
  hk : Kd.kind R = ("hours" : Str) ∨ Kd.kind R = ("bits" : Str)
  nn : Kd.kind R = ("bits" : Str) → ∀ x : R, 0 ≤ Kd.num x
  hb : decide (Kd.kind R = ("hours" : Str)) = true ∨ Kd.kind R = ("bits" : Str)
instance : KdL Int := ⟨.inl rfl, fun h => absurd h (by decide), .inl rfl⟩
instance : KdL Pol := ⟨.inr rfl, fun _ x => Int.natCast_nonneg _, .inr rfl⟩
abbrev kv : List Str := ["value"]
abbrev kkv : List Str := ["kind", "value"]
def sWhole (ds : List D) (d : D) : Prop := ∃ i : Int, ds = [.int i] ∧ d = .bl true
def sCount (ds : List D) (d : D) : Prop := ∃ i : Int, ds = [.int i] ∧ d = .bl (decide (0 ≤ i))
def sKind (R : Type) [Kd R] (ds : List D) (d : D) : Prop := ds = [.str (Kd.kind R)] ∧ d = .bl true
def sNum (R : Type) [Kd R] (ds : List D) (d : D) : Prop := ∃ x : R, ds = [.str (Kd.kind R), nI R x] ∧ d = .bl true
theorem sc_whole : FnScope kv kv (defScope (top 10)) := ⟨rfl, rfl, rfl, by decide +kernel, rfl, by decide +kernel, by decide +kernel⟩
theorem w_whole {k : Nat} (to : TabOnly TB) (a : At K mg "is_whole" (top 10) kv) (fr : Fr mg) : Df P w K mg base TB (k + 1) "is_whole" sWhole :=
  mk_df to a sc_whole (by rintro ds d ⟨i, rfl, _⟩; rfl) fun f cdv A outer s H E ds d hr ⟨i, e1, e2⟩ => by
    subst e1 e2
    exact ru_one (ru_ret (ev_andV (k := true) (ii_int fr (ev_n 0)) fun _ => ev_and1 (ev_is (ev_not (k := false) (ii_bool fr (ev_n 0))) rfl)) ⟨rfl, rfl⟩)
theorem sc_count : FnScope kv kv (defScope (top 11)) := ⟨rfl, rfl, rfl, by decide +kernel, rfl, by decide +kernel, by decide +kernel⟩
theorem w_count {k : Nat} (to : TabOnly TB) (a : At K mg "is_count" (top 11) kv) (F : Df P w K mg base TB k "is_whole" sWhole) : Df P w K mg base TB (k + 1) "is_count" sCount :=
  mk_df to a sc_count (by rintro ds d ⟨i, rfl, _⟩; rfl) fun f cdv A outer s H E ds d hr ⟨i, e1, e2⟩ => by
    subst e1 e2
    exact ru_one (ru_ret (ev_andV (k := true) (ev_call F (Le.refl _) hr (eva_cons (ev_n 0) eva_nil) ⟨i, rfl, rfl⟩) fun _ => ev_and1 (ev_ge (ev_n 0) ev_int)) ⟨rfl, rfl⟩)
theorem sc_kind : FnScope kv kv (defScope (top 12)) := ⟨rfl, rfl, rfl, by decide +kernel, rfl, by decide +kernel, by decide +kernel⟩
theorem w_kind [KdL R] {k : Nat} (to : TabOnly TB) (a : At K mg "is_kind" (top 12) kv) (fr : Fr mg) : Df P w K mg base TB (k + 1) "is_kind" (sKind R) :=
  mk_df to a sc_kind (by rintro ds d ⟨rfl, _⟩; rfl) fun f cdv A outer s H E ds d hr ⟨e1, e2⟩ => by
    subst e1 e2
    refine ru_one (ru_ret (d := .bl true) (ev_andV (k := true) (l := true) (ii_str fr (ev_n 0)) fun _ => ev_and1 (ev_is (ev_in (ev_n 0) (ev_lst (eva_cons ev_str (eva_cons ev_str eva_nil)))) ?_)) ⟨rfl, rfl⟩)
    rcases KdL.hk (R := R) with h | h <;> rw [h] <;> exact congrArg D.bl (by decide)
theorem sc_num : FnScope kkv kkv (defScope (top 13)) := ⟨rfl, rfl, rfl, by decide +kernel, rfl, by decide +kernel, by decide +kernel⟩
theorem w_num [KdL R] {k : Nat} (to : TabOnly TB) (a : At K mg "is_number_of" (top 13) kkv) (F1 : Df P w K mg base TB k "is_whole" sWhole) (F2 : Df P w K mg base TB k "is_count" sCount) : Df P w K mg base TB (k + 1) "is_number_of" (sNum R) :=
  mk_df to a sc_num (by rintro ds d ⟨x, rfl, _⟩; rfl) fun f cdv A outer s H E ds d hr ⟨x, e1, e2⟩ => by
    subst e1 e2
    refine ru_one (ru_ret (ev_if (evT_eqS (ev_n 0) ev_str) (fun _ => ev_call F1 (Le.refl _) hr (eva_cons (ev_n 1) eva_nil) ⟨_, rfl, rfl⟩) (fun h => ev_call F2 (Le.refl _) hr (eva_cons (ev_n 1) eva_nil) ⟨_, rfl, ?_⟩)) ⟨rfl, rfl⟩)
    rcases KdL.hk (R := R) with e | e
    · rw [e] at h; exact absurd h (by decide)
    · rw [decide_eq_true (KdL.nn e x)]
end
/-! ### names -/
def letters : List Str := ["a", "b", "c", "d"]
def rk (n : Str) : Nat := letters.idxOf n
/-- texts that the module keeps -/
structure Con (mg : Str → Option Value) : Prop where
  letters : ∃ t, mg "LETTERS" = some (.str "abcdefghijklmnopqrstuvwxyz" t)
  figures : ∃ t, mg "FIGURES" = some (.str "0123456789" t)
  mostL : ∃ t, mg "MOST_LETTERS" = some (.int 6 t)
  mostF : ∃ t, mg "MOST_FIGURES" = some (.int 3 t)
section
variable {P : Program} {w : World} {K : Fg} {mg : Str → Option Value} {base : Heap} {TB : Th} {R : Type} [Kd R]
theorem let_ok : ∀ n ∈ letters, Txt.rstripChars n "0123456789" = n ∧ Txt.stripChars n "abcdefghijklmnopqrstuvwxyz" = "" ∧ n.length = 1 ∧ cutS n (some (n.length : Nat)) none = "" := by decide +kernel
def sName (ds : List D) (d : D) : Prop := ∃ n ∈ letters, ds = [.str n] ∧ d = .bl true
abbrev kht : List Str := ["value", "head", "tail"]
theorem sc_name : FnScope kht kv (defScope (top 14)) := ⟨rfl, rfl, rfl, by decide +kernel, rfl, by decide +kernel, by decide +kernel⟩
theorem w_name {k : Nat} (to : TabOnly TB) (a : At K mg "name_fits" (top 14) kv) (fr : Fr mg) (co : Con mg) : Df P w K mg base TB (k + 1) "name_fits" sName :=
  mk_df to a sc_name (by rintro ds d ⟨i, _, rfl, _⟩; rfl) fun f cdv A outer s H E ds d hr ⟨n, hn, e1, e2⟩ => by
    subst e1 e2
    obtain ⟨t1, g1⟩ := co.letters
    obtain ⟨t2, g2⟩ := co.figures
    obtain ⟨t3, g3⟩ := co.mostL
    obtain ⟨t4, g4⟩ := co.mostF
    obtain ⟨h1, h2, h3, h4⟩ := let_ok n hn
    refine ru_cons (ru_if (k := false) (evT_is (evT_not (k := true) (evT_val (ii_str fr (ev_n 0)))) rfl) nofun fun _ => ru_nil ?_)
    refine ru_cons (ru_set 1 sc_name.nd (ev_rstrip (ev_n 0) (ev_gS g2) h1 (by omega)) ?_)
    refine ru_cons (ru_set 2 sc_name.nd (ev_is (evs_sl (ev_n 0) (evp_some (ev_lenX fr.len (ev_n 1) (by omega))) evp_none (by omega)) (congrArg D.str h4)) ?_)
    refine ru_cons (ru_if (k := false) (evT_w (evT_is' (evW_or (k := false) (l := false) (evT_is (evT_not (k := true) (evT_is (evT_chain op_le op_le ev_int (ev_lenX fr.len (ev_n 1) (by omega)) (ev_gI g3) (r2_I0 fun _ => is_bl.mpr rfl) (r2_I0 fun _ => is_bl.mpr rfl)) (by rw [h3]; rfl))) rfl) fun _ =>
      evT_is' (evW_or (k := false) (l := false) (evT_is (evT_neS (ev_strip (ev_n 1) (ev_gS g1) h2 (by omega)) ev_str) (by decide)) fun _ => evW_or1 (evT_is (evT_gt (ev_lenX fr.len (ev_n 2) (by decide)) (ev_gI g4)) (by decide))) rfl) rfl)) nofun fun _ => ru_nil ?_)
    exact ru_one (ru_ret (ev_orV (k := true) (l := true) (ev_is (ev_in (ev_n 2) (ev_lst (eva_cons ev_str (eva_cons ev_str eva_nil)))) (congrArg D.bl (by decide))) nofun) ⟨rfl, rfl⟩)
end
end PU
set_option Elab.async false
set_option linter.all false
set_option maxRecDepth 100000
set_option maxHeartbeats 4000000
/-! W7: terms, balances, scales told apart from other values. -/
namespace PU
open PySem PySem.Spec PyProof.Rows L2 LamX
section
variable {R : Type} [Kd R]
abbrev Tm (R : Type) := List (Str × R)
def tD (R : Type) [Kd R] (t : Str × R) : D := .tup [.str t.1, nI R t.2]
def tsD (R : Type) [Kd R] (ts : Tm R) : D := .lst (ts.map (tD R))
structure Bal (R : Type) where
  terms : Tm R
  tot : R
  by_ : R
def bD (R : Type) [Kd R] (b : Bal R) : D := .tup [tsD R b.terms, nI R b.tot, nI R b.by_]
def scD (R : Type) [Kd R] (bs : List (Bal R)) : D := .tup [.str (Kd.kind R), .lst (bs.map (bD R))]
structure NmOk (ns : List Str) : Prop where
  few : ns.length ≤ 1000
  let_ : ∀ n ∈ ns, n ∈ letters
  asc : (ns.map rk).Pairwise (· < ·)
structure ByOk (b : R) : Prop where
  nn : 0 ≤ Kd.num b
  few : bitsOf (Kd.num b) ≤ 9000
structure TmOk (b : R) (ts : Tm R) : Prop where
  nm : NmOk (ts.map fun t => t.1)
  ne : ∀ t ∈ ts, Kd.num t.2 ≠ 0
  sm : ∀ t ∈ ts, Sm t.2
  rem : ∀ t ∈ ts, Kd.rem t.2 b = t.2
structure BalOk (b : Bal R) : Prop where
  by_ : ByOk b.by_
  tm : TmOk b.by_ b.terms
  sm : Sm b.tot
  rem : Kd.rem b.tot b.by_ = b.tot
structure ScOk (bs : List (Bal R)) : Prop where
  few : bs.length ≤ 1000
  ok : ∀ b ∈ bs, BalOk b
def sNames (ds : List D) (d : D) : Prop := ∃ ns : List Str, ds = [.lst (ns.map .str)] ∧ NmOk ns ∧ d = .bl true
def sPair (R : Type) [Kd R] (ds : List D) (d : D) : Prop := ∃ t : Str × R, ds = [.str (Kd.kind R), tD R t] ∧ t.1 ∈ letters ∧ d = .bl true
def sNums (R : Type) [Kd R] (ds : List D) (d : D) : Prop := ∃ ts : Tm R, ds = [.str (Kd.kind R), tsD R ts] ∧ NmOk (ts.map fun t => t.1) ∧ d = .bl true
def sIsRest (R : Type) [Kd R] (ds : List D) (d : D) : Prop := ∃ x y : R, ds = [.str (Kd.kind R), nI R x, nI R y] ∧ Sm x ∧ ByOk y ∧ Kd.rem x y = x ∧ d = .bl true
def sTerms (R : Type) [Kd R] (ds : List D) (d : D) : Prop := ∃ (ts : Tm R) (b : R), ds = [.str (Kd.kind R), tsD R ts, nI R b] ∧ ByOk b ∧ TmOk b ts ∧ d = .bl true
def sBal (R : Type) [Kd R] (ds : List D) (d : D) : Prop := ∃ b : Bal R, ds = [.str (Kd.kind R), bD R b] ∧ BalOk b ∧ d = .bl true
def sScale (R : Type) [Kd R] (ds : List D) (d : D) : Prop := ∃ bs : List (Bal R), ds = [scD R bs] ∧ ScOk bs ∧ d = .bl true
def sCheck (R : Type) [Kd R] (ds : List D) (d : D) : Prop := ∃ bs : List (Bal R), ds = [scD R bs] ∧ ScOk bs ∧ d = .non
end
theorem rk_lt : ∀ n ∈ letters, ∀ m ∈ letters, rk n < rk m → decide (n.cps.toList < m.cps.toList) = true := by decide +kernel
section
variable {P : Program} {w : World} {K : Fg} {mg : Str → Option Value} {base : Heap} {TB : Th} {R : Type} [Kd R]
abbrev kan : List Str := ["value", "item", "at"]
theorem sc_anames : FnScope kan kv (defScope (top 15)) := ⟨rfl, rfl, rfl, by decide +kernel, rfl, by decide +kernel, by decide +kernel⟩
theorem w_anames {k : Nat} (to : TabOnly TB) (a : At K mg "are_names" (top 15) kv) (fr : Fr mg) (F : Df P w K mg base TB k "name_fits" sName) : Df P w K mg base TB (k + 1) "are_names" sNames :=
  mk_df to a sc_anames (by rintro ds d ⟨i, rfl, _⟩; rfl) fun f cdv A outer s H E ds d hr ⟨ns, e1, ok, e2⟩ => by
    subst e1 e2
    have hu : (BodyX P w K mg base kan "are_names" (top 15) f cdv A outer s H E).A.units + 64 < cLine := by
      have := hr.un
      omega
    have few := ok.few
    refine ru_cons (ru_if (k := false) (evT_w (evT_is' (evW_or (k := false) (l := false) (evT_is (evT_not (k := true) (evT_val (ii_list fr (ev_n 0)))) rfl) fun _ =>
      evW_or1 (evT_ne00 hu (ev_lcZ ns D.str [("item", 1)] _ [1] rfl sc_anames.nd (evi_list (ev_n 0)) rfl (by omega) (by simp) (fun x m s H C cl fp => evg_n 1 sc_anames.nd) (fun n m s H C cl fp => evts_one (evT_is (evT_not (k := true) (evT_val (ev_call F (Le.refl _) hr (eva_cons (ev_n 1) eva_nil) ⟨n, ok.let_ n m, rfl, rfl⟩))) rfl))) (ev_lst eva_nil))) rfl)) nofun fun _ => ru_nil ?_)
    refine ru_one (ru_ret (ev_eq00 hu (ev_lcZ (List.range (((ns.map D.str).length : Int) - 1).toNat) (fun i => .int (1 + (i : Nat))) [("at", 2)] _ [2] rfl sc_anames.nd (evi_range2 fr.range ev_int (ev_len fr.len (ev_n 0) (.fz _)) (by rw [List.length_map]; omega)) rfl (by rw [List.length_range, List.length_map]; omega) (by simp) (fun x m s H C cl fp => evg_n 2 sc_anames.nd) (fun i m s H C cl fp => ?_)) (ev_lst eva_nil)) ⟨rfl, rfl⟩)
    have hi : i + 1 < ns.length := by
      have := List.mem_range.mp m
      rw [List.length_map] at this
      omega
    have h1 : i < ns.length := by omega
    have g1 : atI (ns.map D.str) (1 + (i : Nat) - 1) = some (.str ns[i]) := by
      rw [show (1 + ((i : Nat) : Int) - 1) = (i : Nat) by omega]
      exact atI_nat (by rw [List.getElem?_map, List.getElem?_eq_getElem h1]; rfl)
    have g2 : atI (ns.map D.str) (1 + (i : Nat)) = some (.str ns[i + 1]) := by
      rw [show (1 + ((i : Nat) : Int)) = ((i + 1 : Nat) : Int) by omega]
      exact atI_nat (by rw [List.getElem?_map, List.getElem?_eq_getElem hi]; rfl)
    have pw := List.pairwise_iff_getElem.mp ok.asc i (i + 1) (by rw [List.length_map]; exact h1) (by rw [List.length_map]; exact hi) (Nat.lt_succ_self _)
    rw [List.getElem_map, List.getElem_map] at pw
    exact evts_one (evT_is (evT_geS (ev_ix (ev_n 0) (ev_sub (ev_n 2) ev_int) g1) (ev_ix (ev_n 0) (ev_n 2) g2)) (by rw [rk_lt _ (ok.let_ _ (List.getElem_mem h1)) _ (ok.let_ _ (List.getElem_mem hi)) pw]; rfl))
theorem sc_pair : FnScope kkv kkv (defScope (top 16)) := ⟨rfl, rfl, rfl, by decide +kernel, rfl, by decide +kernel, by decide +kernel⟩
theorem w_pair {k : Nat} (to : TabOnly TB) (a : At K mg "pair_fits" (top 16) kkv) (fr : Fr mg) (F1 : Df P w K mg base TB k "name_fits" sName) (F2 : Df P w K mg base TB k "is_number_of" (sNum R)) : Df P w K mg base TB (k + 1) "pair_fits" (sPair R) :=
  mk_df to a sc_pair (by rintro ds d ⟨t, rfl, _⟩; rfl) fun f cdv A outer s H E ds d hr ⟨t, e1, ok, e2⟩ => by
    subst e1 e2
    exact ru_one (ru_ret (d := .bl true) (ev_andV (k := true) (l := true) (ii_tuple fr (ev_n 1)) fun _ => ev_andV (k := true) (l := true) (ev_is (ev_eq (ev_lenT fr.len (ev_n 1)) ev_int) (congrArg D.bl (by rfl))) fun _ => ev_andV (k := true) (l := true) (ev_call F1 (Le.refl _) hr (eva_cons (ev_ixT (ev_n 1) ev_int rfl) eva_nil) ⟨t.1, ok, rfl, rfl⟩) fun _ => ev_and1 (ev_call F2 (Le.refl _) hr (eva_cons (ev_n 0) (eva_cons (ev_ixT (ev_n 1) ev_int rfl) eva_nil)) ⟨t.2, rfl, rfl⟩)) ⟨rfl, rfl⟩)
abbrev knf : List Str := ["kind", "value", "item", "name", "number"]
theorem sc_nums : FnScope knf kkv (defScope (top 17)) := ⟨rfl, rfl, rfl, by decide +kernel, rfl, by decide +kernel, by decide +kernel⟩
theorem w_nums {k : Nat} (to : TabOnly TB) (a : At K mg "numbers_fit" (top 17) kkv) (fr : Fr mg) (F1 : Df P w K mg base TB k "pair_fits" (sPair R)) (F2 : Df P w K mg base TB k "are_names" sNames) : Df P w K mg base TB (k + 1) "numbers_fit" (sNums R) :=
  mk_df to a sc_nums (by rintro ds d ⟨t, rfl, _⟩; rfl) fun f cdv A outer s H E ds d hr ⟨ts, e1, ok, e2⟩ => by
    subst e1 e2
    have hu : (BodyX P w K mg base knf "numbers_fit" (top 17) f cdv A outer s H E).A.units + 64 < cLine := by
      have := hr.un
      omega
    have few : ts.length ≤ 1000 := by have := ok.few; rwa [List.length_map] at this
    refine ru_cons (ru_if (k := false) (evT_w (evT_is' (evW_or (k := false) (l := false) (evT_is (evT_not (k := true) (evT_val (ii_list fr (ev_n 1)))) rfl) fun _ =>
      evW_or1 (evT_ne00 hu (ev_lcZ ts (tD R) [("item", 2)] _ [2] rfl sc_nums.nd (evi_list (ev_n 1)) rfl (by omega) (by simp) (fun x m s H C cl fp => evg_n 2 sc_nums.nd) (fun t m s H C cl fp => evts_one (evT_is (evT_not (k := true) (evT_val (ev_call F1 (Le.refl _) hr (eva_cons (ev_n 0) (eva_cons (ev_n 2) eva_nil)) ⟨t, rfl, ok.let_ _ (List.mem_map_of_mem m), rfl⟩))) rfl))) (ev_lst eva_nil))) rfl)) nofun fun _ => ru_nil ?_)
    refine ru_one (ru_ret (ev_call F2 (Le.refl _) hr (eva_cons (ev_is (ev_lcA ts (tD R) (fun t => .str t.1) [("name", 3), ("number", 4)] _ [3, 4] rfl sc_nums.nd (evi_list (ev_n 1)) rfl (by omega) (by simp) (fun x m s H C cl fp => evg_tup rfl (evgs_cons (evg_n 3 sc_nums.nd) (evgs_cons (evg_n 4 sc_nums.nd) evgs_nil))) (fun x m s H C cl fp => ev_n 3)) (congrArg D.lst ?_)) eva_nil) ⟨ts.map fun t => t.1, rfl, ok, rfl⟩) ⟨rfl, rfl⟩)
    rw [List.map_map]; rfl
abbrev kvb : List Str := ["kind", "value", "by"]
theorem sc_isrest : FnScope kvb kvb (defScope (top 26)) := ⟨rfl, rfl, rfl, by decide +kernel, rfl, by decide +kernel, by decide +kernel⟩
theorem w_isrest {k : Nat} (to : TabOnly TB) (a : At K mg "is_rest_of" (top 26) kvb) (F1 : Df P w K mg base TB k "is_number_of" (sNum R)) (F2 : Df P w K mg base TB k "rest_in" (sRem R)) : Df P w K mg base TB (k + 1) "is_rest_of" (sIsRest R) :=
  mk_df to a sc_isrest (by rintro ds d ⟨x, y, rfl, _⟩; rfl) fun f cdv A outer s H E ds d hr ⟨x, y, e1, h1, h2, h3, e2⟩ => by
    subst e1 e2
    refine ru_one (ru_ret (d := .bl true) (ev_andV (k := true) (l := true) (ev_call F1 (Le.refl _) hr (eva_cons (ev_n 0) (eva_cons (ev_n 1) eva_nil)) ⟨x, rfl, rfl⟩) fun _ => ev_and1 (ev_is (ev_eq (ev_call F2 (Le.refl _) hr (eva_cons (ev_n 0) (eva_cons (ev_n 1) (eva_cons (ev_n 2) eva_nil))) ⟨x, y, rfl, h1, h2.nn, h2.few, rfl⟩) (ev_n 1)) ?_)) ⟨rfl, rfl⟩)
    rw [h3, decide_eq_true rfl]
abbrev ktf : List Str := ["kind", "value", "by", "name", "factor"]
theorem sc_terms : FnScope ktf kvb (defScope (top 27)) := ⟨rfl, rfl, rfl, by decide +kernel, rfl, by decide +kernel, by decide +kernel⟩
theorem w_terms {k : Nat} (to : TabOnly TB) (a : At K mg "terms_fit" (top 27) kvb) (F1 : Df P w K mg base TB k "numbers_fit" (sNums R)) (F2 : Df P w K mg base TB k "is_rest_of" (sIsRest R)) : Df P w K mg base TB (k + 1) "terms_fit" (sTerms R) :=
  mk_df to a sc_terms (by rintro ds d ⟨x, y, rfl, _⟩; rfl) fun f cdv A outer s H E ds d hr ⟨ts, b, e1, h1, h2, e2⟩ => by
    subst e1 e2
    have hu : (BodyX P w K mg base ktf "terms_fit" (top 27) f cdv A outer s H E).A.units + 64 < cLine := by
      have := hr.un
      omega
    have few : ts.length ≤ 1000 := by have := h2.nm.few; rwa [List.length_map] at this
    refine ru_cons (ru_if (k := false) (evT_is (evT_not (k := true) (evT_val (ev_call F1 (Le.refl _) hr (eva_cons (ev_n 0) (eva_cons (ev_n 1) eva_nil)) ⟨ts, rfl, h2.nm, rfl⟩))) rfl) nofun fun _ => ru_nil ?_)
    exact ru_one (ru_ret (ev_eq00 hu (ev_lcZ ts (tD R) [("name", 3), ("factor", 4)] _ [3, 4] rfl sc_terms.nd (evi_list (ev_n 1)) rfl (by omega) (by simp) (fun x m s H C cl fp => evg_tup rfl (evgs_cons (evg_n 3 sc_terms.nd) (evgs_cons (evg_n 4 sc_terms.nd) evgs_nil))) (fun t m s H C cl fp => evts_one (evT_w (evT_is' (evW_or (k := false) (l := false) (evT_is (evT_eq (ev_n 4) ev_int) (decide_eq_false (h2.ne t m))) fun _ => evW_or1 (evT_is (evT_not (k := true) (evT_val (ev_call F2 (Le.refl _) hr (eva_cons (ev_n 0) (eva_cons (ev_n 4) (eva_cons (ev_n 2) eva_nil))) ⟨t.2, b, rfl, h2.sm t m, h1, h2.rem t m, rfl⟩))) rfl)) rfl)))) (ev_lst eva_nil)) ⟨rfl, rfl⟩)
abbrev kbf : List Str := ["kind", "value", "terms", "total", "by"]
theorem sc_bal : FnScope kbf kkv (defScope (top 28)) := ⟨rfl, rfl, rfl, by decide +kernel, rfl, by decide +kernel, by decide +kernel⟩
theorem w_bal {k : Nat} (to : TabOnly TB) (a : At K mg "balance_fits" (top 28) kkv) (fr : Fr mg) (F1 : Df P w K mg base TB k "is_count" sCount) (F2 : Df P w K mg base TB k "terms_fit" (sTerms R)) (F3 : Df P w K mg base TB k "is_rest_of" (sIsRest R)) : Df P w K mg base TB (k + 1) "balance_fits" (sBal R) :=
  mk_df to a sc_bal (by rintro ds d ⟨x, rfl, _⟩; rfl) fun f cdv A outer s H E ds d hr ⟨b, e1, ok, e2⟩ => by
    subst e1 e2
    refine ru_cons (ru_if (k := false) (evT_w (evT_is' (evW_or (k := false) (l := false) (evT_is (evT_not (k := true) (evT_val (ii_tuple fr (ev_n 1)))) rfl) fun _ => evT_is' (evW_or (k := false) (l := false) (evT_is (evT_ne (ev_lenT fr.len (ev_n 1)) ev_int) (by rfl)) fun _ => evW_or1 (evT_is (evT_not (k := true) (evT_val (ev_call F1 (Le.refl _) hr (eva_cons (ev_ixT (ev_n 1) ev_int rfl) eva_nil) ⟨_, rfl, by rw [decide_eq_true ok.by_.nn]⟩))) rfl)) rfl) rfl)) nofun fun _ => ru_nil ?_)
    refine ru_cons (ru_asg (ev_n 1) (evg_tup rfl (evgs_cons (evg_n 2 sc_bal.nd) (evgs_cons (evg_n 3 sc_bal.nd) (evgs_cons (evg_n 4 sc_bal.nd) evgs_nil)))) ?_)
    exact ru_one (ru_ret (d := .bl true) (ev_andV (k := true) (l := true) (ev_call F2 (Le.refl _) hr (eva_cons (ev_n 0) (eva_cons (ev_n 2) (eva_cons (ev_n 4) eva_nil))) ⟨_, _, rfl, ok.by_, ok.tm, rfl⟩) fun _ => ev_and1 (ev_call F3 (Le.refl _) hr (eva_cons (ev_n 0) (eva_cons (ev_n 3) (eva_cons (ev_n 4) eva_nil))) ⟨_, _, rfl, ok.sm, ok.by_, ok.rem, rfl⟩)) ⟨rfl, rfl⟩)
abbrev ksf : List Str := ["value", "balance"]
theorem sc_scale : FnScope ksf kv (defScope (top 29)) := ⟨rfl, rfl, rfl, by decide +kernel, rfl, by decide +kernel, by decide +kernel⟩
theorem w_scale {k : Nat} (to : TabOnly TB) (a : At K mg "scale_fits" (top 29) kv) (fr : Fr mg) (F1 : Df P w K mg base TB k "is_kind" (sKind R)) (F2 : Df P w K mg base TB k "balance_fits" (sBal R)) : Df P w K mg base TB (k + 1) "scale_fits" (sScale R) :=
  mk_df to a sc_scale (by rintro ds d ⟨x, rfl, _⟩; rfl) fun f cdv A outer s H E ds d hr ⟨bs, e1, ok, e2⟩ => by
    subst e1 e2
    have hu : (BodyX P w K mg base ksf "scale_fits" (top 29) f cdv A outer s H E).A.units + 64 < cLine := by
      have := hr.un
      omega
    have few := ok.few
    refine ru_cons (ru_if (k := false) (evT_w (evT_is' (evW_or (k := false) (l := false) (evT_is (evT_not (k := true) (evT_val (ii_tuple fr (ev_n 0)))) rfl) fun _ => evT_is' (evW_or (k := false) (l := false) (evT_is (evT_ne (ev_lenT fr.len (ev_n 0)) ev_int) (by rfl)) fun _ => evT_is' (evW_or (k := false) (l := false) (evT_is (evT_not (k := true) (evT_val (ev_call F1 (Le.refl _) hr (eva_cons (ev_ixT (ev_n 0) ev_int rfl) eva_nil) ⟨rfl, rfl⟩))) rfl) fun _ =>
      evW_or1 (evT_is (evT_not (k := true) (evT_val (ii_list fr (ev_ixT (ev_n 0) ev_int (d := .lst (bs.map (bD R))) rfl)))) rfl)) rfl) rfl) rfl)) nofun fun _ => ru_nil ?_)
    exact ru_one (ru_ret (ev_eq00 hu (ev_lcZ bs (bD R) [("balance", 1)] _ [1] rfl sc_scale.nd (evi_list (ev_ixT (ev_n 0) ev_int rfl)) rfl (by omega) (by simp) (fun x m s H C cl fp => evg_n 1 sc_scale.nd) (fun b m s H C cl fp => evts_one (evT_is (evT_not (k := true) (evT_val (ev_call F2 (Le.refl _) hr (eva_cons (ev_ixT (ev_n 0) ev_int rfl) (eva_cons (ev_n 1) eva_nil)) ⟨b, rfl, ok.ok b m, rfl⟩))) rfl))) (ev_lst eva_nil)) ⟨rfl, rfl⟩)
theorem sc_check : FnScope ["scale"] ["scale"] (defScope (top 30)) := ⟨rfl, rfl, rfl, by decide +kernel, rfl, by decide +kernel, by decide +kernel⟩
theorem w_check {k : Nat} (to : TabOnly TB) (a : At K mg "check_scale" (top 30) ["scale"]) (F : Df P w K mg base TB k "scale_fits" (sScale R)) : Df P w K mg base TB (k + 1) "check_scale" (sCheck R) :=
  mk_df to a sc_check (by rintro ds d ⟨x, rfl, _⟩; rfl) fun f cdv A outer s H E ds d hr ⟨bs, e1, ok, e2⟩ => by
    subst e1 e2
    exact ru_one (ru_if (k := false) (evT_is (evT_not (k := true) (evT_val (ev_call F (Le.refl _) hr (eva_cons (ev_n 0) eva_nil) ⟨bs, rfl, ok, rfl⟩))) rfl) nofun fun _ => ru_nil ⟨rfl, rfl⟩)
end
end PU
set_option Elab.async false
set_option linter.all false
set_option maxRecDepth 100000
set_option maxHeartbeats 4000000
/-! W8: names, factors, totals of a scale. -/
namespace PU
open PySem PySem.Spec PyProof.Rows L2 LamX
/-! ### names in a dict -/
def kN (ns : List Str) : List (Key × D) := ns.map fun n => (.inr n, .bl true)
def addN (ns : List Str) (n : Str) : List Str := if n ∈ ns then ns else ns ++ [n]
theorem putA_kN (ns : List Str) (n : Str) : putA (kN ns) (.inr n) (.bl true) = kN (addN ns n) := by
  unfold addN
  by_cases h : n ∈ ns
  · rw [if_pos h]
    unfold putA
    rw [if_pos]
    · unfold kN
      rw [List.map_map]
      apply List.map_congr_left
      intro m _
      show (if (Sum.inr m : Key) = .inr n then _ else _) = _
      split <;> rfl
    · rw [List.any_eq_true]
      exact ⟨(.inr n, .bl true), List.mem_map.mpr ⟨n, h, rfl⟩, decide_eq_true rfl⟩
  · rw [if_neg h, putA_new]
    · unfold kN; rw [List.map_append]; rfl
    · intro p hp
      unfold kN at hp
      obtain ⟨m, hm, rfl⟩ := List.mem_map.mp hp
      intro z
      exact h (by rw [← Sum.inr.inj z]; exact hm)
theorem mergeA_kN : ∀ (ms ns : List Str), mergeA (kN ns) (kN ms) = kN (ms.foldl addN ns)
  | [], _ => rfl
  | m :: ms, ns => by
    show mergeA (putA (kN ns) (.inr m) (.bl true)) (kN ms) = _
    rw [putA_kN, mergeA_kN ms]; rfl
theorem addN_mem {ns : List Str} {n m : Str} : m ∈ addN ns n ↔ m ∈ ns ∨ m = n := by
  unfold addN
  split
  · rename_i h
    exact ⟨.inl, fun z => z.elim id fun e => e ▸ h⟩
  · simp
theorem addN_nodup {ns : List Str} {n : Str} (h : ns.Nodup) : (addN ns n).Nodup := by
  unfold addN
  split
  · exact h
  · rename_i z
    rw [List.nodup_append]
    exact ⟨h, by simp, fun a ha b hb e => z (by simp at hb; rw [← hb, ← e]; exact ha)⟩
theorem fold_mem : ∀ {ms ns : List Str} {m : Str}, m ∈ ms.foldl addN ns ↔ m ∈ ns ∨ m ∈ ms
  | [], _, _ => by simp
  | a :: ms, ns, m => by
    rw [List.foldl_cons, fold_mem, addN_mem, List.mem_cons, or_assoc]
theorem fold_nodup : ∀ {ms ns : List Str}, ns.Nodup → (ms.foldl addN ns).Nodup
  | [], _, h => h
  | a :: ms, ns, h => by rw [List.foldl_cons]; exact fold_nodup (addN_nodup h)
theorem nodup_le : ∀ (n : Nat) (l : List Nat), l.Nodup → (∀ x ∈ l, x < n) → l.length ≤ n
  | 0, l, _, h => by
    cases l with
    | nil => simp
    | cons x l => exact absurd (h x List.mem_cons_self) (by omega)
  | n + 1, l, hn, h => by
    by_cases m : n ∈ l
    · have := nodup_le n (l.erase n) (hn.erase n) fun x hx => by
        have h1 := (List.Nodup.mem_erase_iff hn).mp hx
        have := h x h1.2
        have := h1.1
        omega
      rw [List.length_erase_of_mem m] at this
      omega
    · have := nodup_le n l hn fun x hx => by
        have := h x hx
        have : x ≠ n := fun e => m (e ▸ hx)
        omega
      omega
theorem rk_inj : ∀ n ∈ letters, ∀ m ∈ letters, rk n = rk m → n = m := by decide +kernel
theorem rk_4 : ∀ n ∈ letters, rk n < 4 := by decide +kernel
theorem rk_le : ∀ n ∈ letters, ∀ m ∈ letters, (!ltCps m.cps.toList n.cps.toList) = true → rk n ≤ rk m := by decide +kernel
theorem nodup_rk {ns : List Str} (h : ns.Nodup) (hl : ∀ n ∈ ns, n ∈ letters) : (ns.map rk).Nodup := by
  unfold List.Nodup
  rw [List.pairwise_map]
  exact List.Pairwise.imp_of_mem (fun {a b} ha hb hab e => hab (rk_inj a (hl a ha) b (hl b hb) e)) h
theorem four {ns : List Str} (h : ns.Nodup) (hl : ∀ n ∈ ns, n ∈ letters) : ns.length ≤ 4 := by
  have := nodup_le 4 (ns.map rk) (nodup_rk h hl) fun x hx => by
    obtain ⟨n, hn, rfl⟩ := List.mem_map.mp hx
    exact rk_4 n (hl n hn)
  rwa [List.length_map] at this
theorem rising_pw : ∀ (p : Str) (r : List Str), (∀ n ∈ p :: r, n ∈ letters) → risingS p r = true → ((p :: r).map rk).Pairwise (· ≤ ·)
  | p, [], _, _ => by simp
  | p, x :: r, hl, h => by
    unfold risingS at h
    rw [Bool.and_eq_true] at h
    have ih := rising_pw x r (fun n hn => hl n (List.mem_cons_of_mem _ hn)) h.2
    have h1 := rk_le p (hl p List.mem_cons_self) x (hl x (List.mem_cons_of_mem _ List.mem_cons_self)) h.1
    rw [List.map_cons, List.pairwise_cons]
    refine ⟨fun y hy => ?_, ih⟩
    rw [List.map_cons, List.mem_cons] at hy
    rcases hy with rfl | hy
    · exact h1
    · have := (List.pairwise_cons.mp ih).1 y hy
      omega
theorem perm_sortedN : ∀ {xs ys : List Nat}, xs.Perm ys → xs.Pairwise (· ≤ ·) → ys.Pairwise (· < ·) → xs = ys
  | [], ys, h, _, _ => (List.nil_perm.mp h).symm
  | x :: xs, [], h, _, _ => absurd h.length_eq (by simp)
  | x :: xs, y :: ys, h, h1, h2 => by
    have e : x = y := by
      rcases List.mem_cons.mp (h.subset List.mem_cons_self) with a | a
      · exact a
      · rcases List.mem_cons.mp (h.symm.subset List.mem_cons_self) with b | b
        · exact b.symm
        · have := (List.pairwise_cons.mp h1).1 y b
          have := (List.pairwise_cons.mp h2).1 x a
          omega
    subst e
    rw [perm_sortedN (List.Perm.cons_inv h) (List.pairwise_cons.mp h1).2 (List.pairwise_cons.mp h2).2]
theorem map_rk_inj : ∀ {xs ys : List Str}, (∀ n ∈ xs, n ∈ letters) → (∀ n ∈ ys, n ∈ letters) → xs.map rk = ys.map rk → xs = ys
  | [], [], _, _, _ => rfl
  | [], _ :: _, _, _, h => by simp at h
  | _ :: _, [], _, _, h => by simp at h
  | x :: xs, y :: ys, h1, h2, h => by
    rw [List.map_cons, List.map_cons, List.cons.injEq] at h
    rw [rk_inj x (h1 x List.mem_cons_self) y (h2 y List.mem_cons_self) h.1, map_rk_inj (fun n hn => h1 n (List.mem_cons_of_mem _ hn)) (fun n hn => h2 n (List.mem_cons_of_mem _ hn)) h.2]
theorem perm_of_mem : ∀ {xs ys : List Str}, xs.Nodup → ys.Nodup → (∀ n, n ∈ xs ↔ n ∈ ys) → xs.Perm ys
  | [], ys, _, _, h => by
    cases ys with
    | nil => exact List.Perm.nil
    | cons y ys => exact absurd ((h y).mpr List.mem_cons_self) (by simp)
  | x :: xs, ys, h1, h2, h => by
    have hx : x ∈ ys := (h x).mp List.mem_cons_self
    have n1 := List.nodup_cons.mp h1
    refine (List.Perm.cons x (perm_of_mem n1.2 (h2.erase x) fun n => ?_)).trans (List.perm_cons_erase hx).symm
    rw [List.Nodup.mem_erase_iff h2, ← h n, List.mem_cons]
    refine ⟨fun m => ⟨fun e => n1.1 (e ▸ m), .inr m⟩, fun m => m.2.elim (fun e => absurd e m.1) id⟩
/-- what sorted tells of the names -/
theorem sorted_names {ns out ys : List Str} (hn : ns.Nodup) (hl : ∀ n ∈ ns, n ∈ letters) (ok : NmOk out) (hm : ∀ n, n ∈ ns ↔ n ∈ out) (hp : ys.Perm ns) (hs : sortedS ys = true) : ys = out := by
  have yl : ∀ n ∈ ys, n ∈ letters := fun n h => hl n (hp.subset h)
  have on : out.Nodup := by
    have := ok.asc
    rw [List.pairwise_map] at this
    exact this.imp fun h e => by rw [e] at h; omega
  refine map_rk_inj yl ok.let_ (perm_sortedN ((hp.trans (perm_of_mem hn on hm)).map rk) ?_ ok.asc)
  cases ys with
  | nil => simp
  | cons y ys => exact rising_pw y ys yl hs
section
variable {R : Type} [Kd R]
def inSc (bs : List (Bal R)) (n : Str) : Prop := ∃ b ∈ bs, ∃ t ∈ b.terms, t.1 = n
/-- the names of a scale, in order -/
structure NmOf (bs : List (Bal R)) (ns : List Str) : Prop where
  ok : NmOk ns
  iff : ∀ n, n ∈ ns ↔ inSc bs n
def sNmIn (R : Type) [Kd R] (ds : List D) (d : D) : Prop := ∃ (bs : List (Bal R)) (ns : List Str), ds = [scD R bs] ∧ ScOk bs ∧ NmOf bs ns ∧ d = .lst (ns.map .str)
end
section
variable {P : Program} {w : World} {K : Fg} {mg : Str → Option Value} {base : Heap} {TB : Th} {R : Type} [Kd R]
abbrev kni : List Str := ["scale", "found", "terms", "total", "by", "name", "factor"]
theorem sc_nmin : FnScope kni ["scale"] (defScope (top 31)) := ⟨rfl, rfl, rfl, by decide +kernel, rfl, by decide +kernel, by decide +kernel⟩
theorem w_nmin {k : Nat} (to : TabOnly TB) (a : At K mg "names_in_scale" (top 31) ["scale"]) (fr : Fr mg) : Df P w K mg base TB (k + 1) "names_in_scale" (sNmIn R) :=
  mk_df to a sc_nmin (by rintro ds d ⟨bs, ns, rfl, _⟩; rfl) fun f cdv A outer s H E ds d hr ⟨bs, ns, e1, ok, nm, e2⟩ => by
    subst e1 e2
    have few := ok.few
    refine ru_cons (ru_setN 1 sc_nmin.nd (evn_newD fun p hp => ?_))
    refine ru_cons (ru_for (fun i ρ T => ∃ (ms : List Str) (v2 v3 v4 : Option D), T = tset TB p (.dk (kN ms)) ∧ ρ = [some (scD R bs), some (.ptr p), v2, v3, v4, none, none] ∧ ms.Nodup ∧ (∀ n, n ∈ ms ↔ inSc (bs.take i) n)) ⟨[], none, none, none, rfl, rfl, List.nodup_nil, fun n => by simp [inSc]⟩ PassesOwn.never rfl (evi_list (ds := bs.map (bD R)) (ev_ixT (ev_n 0) ev_int rfl)) (fun i d ρ T hd ⟨ms, v2, v3, v4, eT, eρ, hn, hm⟩ => ?_) ?_)
    · subst eT eρ
      rw [List.getElem?_map] at hd
      cases z : bs[i]? with
      | none => rw [z] at hd; cases hd
      | some b =>
        rw [z] at hd
        cases (Option.some.inj hd)
        have hb := List.mem_of_getElem? z
        have bo := ok.ok b hb
        have ml : ∀ n ∈ ms, n ∈ letters := fun n h => by
          obtain ⟨b', hb', t, ht, rfl⟩ := (hm n).mp h
          exact (ok.ok b' (List.mem_of_mem_take hb')).tm.nm.let_ _ (List.mem_map_of_mem ht)
        have tfew : b.terms.length ≤ 1000 := by have := bo.tm.nm.few; rwa [List.length_map] at this
        refine ⟨_, _, evg_tup rfl (evgs_cons (evg_n 2 sc_nmin.nd) (evgs_cons (evg_n 3 sc_nmin.nd) (evgs_cons (evg_n 4 sc_nmin.nd) evgs_nil))), ?_⟩
        have e0 : putsA (fun t : Str × R => (.inr t.1 : Key)) (fun _ => .bl true) b.terms = kN ((b.terms.map fun t => t.1).foldl addN []) := by
          show mergeA (kN []) (b.terms.map fun t => ((.inr t.1 : Key), D.bl true)) = _
          rw [← mergeA_kN]
          unfold kN
          rw [List.map_map]; rfl
        have hlen : (kN ((b.terms.map fun t => t.1).foldl addN [])).length ≤ 1000 := by
          rw [← e0]
          have := putsA_len (fun t : Str × R => (.inr t.1 : Key)) (fun _ => .bl true) b.terms b.terms.length
          rw [List.take_length] at this
          omega
        refine ru_one (ru_upd (ev_n 1) tset_same (ev_is (ev_dc b.terms (tD R) (fun t => .inr t.1) (fun _ => .bl true) [("name", 5), ("factor", 6)] _ [5, 6] rfl sc_nmin.nd (evi_list (ev_n 2)) rfl (by omega) (by simp) (fun x m s H C cl fp => evg_tup rfl (evgs_cons (evg_n 5 sc_nmin.nd) (evgs_cons (evg_n 6 sc_nmin.nd) evgs_nil))) (fun x m s H C cl fp => ev_n 5) (fun x m s H C cl fp => ev_bl)) (congrArg D.dk e0)) ?_ ⟨(b.terms.map fun t => t.1).foldl addN [] |>.foldl addN ms, _, _, _, ?_, rfl, fold_nodup hn, fun n => ?_⟩)
        · have := four hn ml
          unfold kN at hlen ⊢
          rw [List.length_map]
          omega
        · rw [tset_tset, mergeA_kN]
        · rw [fold_mem, fold_mem, hm n, List.take_add_one, z]
          unfold inSc
          constructor
          · rintro (⟨b', hb', t, ht, rfl⟩ | h | h)
            · exact ⟨b', List.mem_append_left _ hb', t, ht, rfl⟩
            · cases h
            · obtain ⟨t, ht, rfl⟩ := List.mem_map.mp h
              exact ⟨b, List.mem_append_right _ (by simp), t, ht, rfl⟩
          · rintro ⟨b', hb', t, ht, rfl⟩
            rcases List.mem_append.mp hb' with h | h
            · exact .inl ⟨b', h, t, ht, rfl⟩
            · have : b' = b := by simpa using h
              subst this
              exact .inr (.inr (List.mem_map_of_mem ht))
    · rintro ρ T ⟨ms, v2, v3, v4, eT, eρ, hn, hm⟩
      subst eT eρ
      rw [List.length_map, List.take_length] at hm
      have ml : ∀ n ∈ ms, n ∈ letters := fun n h => nm.ok.let_ n ((nm.iff n).mpr ((hm n).mp h))
      refine ru_freeze 1 rfl tset_same ?_
      rw [tdel_tset hp]
      exact ru_one (ru_ret (ev_sortedDS (ks := ms) fr.sorted rfl (ev_n 1) (.fz _) (by unfold kN; rw [List.map_map]; rfl) (by have := four hn ml; omega) (fun ys h1 h2 => sorted_names hn ml nm.ok (fun n => (hm n).trans (nm.iff n).symm) h1 h2)) ⟨rfl, rfl⟩)
end
end PU
set_option Elab.async false
set_option linter.all false
set_option maxRecDepth 100000
set_option maxHeartbeats 4000000
/-! W9: factors, totals, the rows that reach. -/
namespace PU
open PySem PySem.Spec PyProof.Rows L2 LamX
section
variable {R : Type} [Kd R]
def fac (ts : Tm R) (n : Str) : R := ((ts.find? fun t => decide (t.1 = n)).map (·.2)).getD 0
def facs (bs : List (Bal R)) (n : Str) : List R := bs.map fun b => fac b.terms n
def kT (R : Type) [Kd R] (ts : Tm R) : List (Key × D) := ts.map fun t => (.inr t.1, nI R t.2)
theorem mergeA_new : ∀ (more acc : List (Key × D)), (∀ p ∈ acc, ∀ q ∈ more, p.1 ≠ q.1) → (more.map (·.1)).Nodup → mergeA acc more = acc ++ more
  | [], acc, _, _ => by simp [mergeA]
  | q :: more, acc, h, hn => by
    rw [List.map_cons, List.nodup_cons] at hn
    show mergeA (putA acc q.1 q.2) more = _
    rw [putA_new (fun p hp => h p hp q List.mem_cons_self), mergeA_new more _ ?_ hn.2]
    · simp
    · intro p hp r hr
      rcases List.mem_append.mp hp with a | a
      · exact h p a r (List.mem_cons_of_mem _ hr)
      · simp only [List.mem_singleton] at a
        subst a
        exact fun e => hn.1 (by show q.1 ∈ _; rw [show q.1 = r.1 from e]; exact List.mem_map_of_mem hr)
theorem TmOk.nodup {b : R} {ts : Tm R} (h : TmOk b ts) : (ts.map fun t => t.1).Nodup := by
  have := h.nm.asc
  rw [List.pairwise_map] at this
  exact this.imp fun h e => by rw [e] at h; omega
theorem kT_merge {ts : Tm R} (h : (ts.map fun t => t.1).Nodup) : mergeA [] (kT R ts) = kT R ts := by
  rw [mergeA_new _ _ (fun p hp => by cases hp)]
  · rfl
  · unfold kT
    rw [List.map_map]
    unfold List.Nodup at h ⊢
    rw [List.pairwise_map] at h ⊢
    exact h.imp fun h e => h (Sum.inr.inj e)
theorem kT_look (ts : Tm R) (n : Str) : (lookA (kT R ts) (.inr n)).getD (.int 0) = nI R (fac ts n) := by
  unfold lookA kT fac
  induction ts with
  | nil => show D.int 0 = .int (Kd.num (0 : R)); rw [Kd.num0]
  | cons t ts ih =>
    rw [List.map_cons, List.find?_cons, List.find?_cons]
    have e : decide ((Sum.inr t.1 : Key) = .inr n) = decide (t.1 = n) := by
      rw [Bool.eq_iff_iff, decide_eq_true_eq, decide_eq_true_eq]
      exact ⟨Sum.inr.inj, fun h => by rw [h]⟩
    simp only [e]
    cases decide (t.1 = n)
    · exact ih
    · rfl
def sFacs (R : Type) [Kd R] (ds : List D) (d : D) : Prop := ∃ (bs : List (Bal R)) (n : Str), ds = [scD R bs, .str n] ∧ ScOk bs ∧ d = rD R (facs bs n)
def sTots (R : Type) [Kd R] (ds : List D) (d : D) : Prop := ∃ bs : List (Bal R), ds = [scD R bs] ∧ ScOk bs ∧ d = rD R (bs.map fun b => b.tot)
def unitR (R : Type) [Kd R] (ns : List Str) (n : Str) : List R := ns.map fun o => if n = o then 1 else 0
def topR (bs : List (Bal R)) (ns : List Str) : List (List R) := ns.map fun n => facs bs n ++ unitR R ns n
def botR (bs : List (Bal R)) (k : Nat) : List (List R) := ((enumR bs).filter fun p => decide (0 < Kd.num p.2.by_)).map fun p => ((List.range bs.length).map fun i => if p.1 = i then p.2.by_ else 0) ++ List.replicate k 0
def reachR (bs : List (Bal R)) (ns : List Str) : List (List R) := topR bs ns ++ botR bs ns.length
def sReach (R : Type) [Kd R] (ds : List D) (d : D) : Prop := ∃ (bs : List (Bal R)) (ns : List Str), ds = [scD R bs, .lst (ns.map .str)] ∧ ScOk bs ∧ bs.length ≤ 500 ∧ ns.length ≤ 60 ∧ d = rsD R (reachR bs ns)
end
section
variable {P : Program} {w : World} {K : Fg} {mg : Str → Option Value} {base : Heap} {TB : Th} {R : Type} [Kd R]
theorem evi_rangeN {X : Cx} {tg e : Expr} {ρ : Rho} {T : Th} {p pos : Pos} {n : Nat} (hm : X.mg "range" = none) (h : Ev X e ρ T (.int (n : Nat))) (hn : n ≤ 1000000) (hg : Gl X "range" := by rfl) (ha : starEach [e] X.env = [(false, eval e X.env)] := by rfl) : EvI X tg (.Call (.Name "range" p) [e] [] pos) ρ T ((List.range n).map fun i => .int (i : Nat)) :=
  evi_range1 (n := (n : Int)) hm h (by omega) (by omega) hg ha
abbrev kfo : List Str := ["scale", "name", "terms", "total", "by"]
theorem sc_facs : FnScope kfo ["scale", "name"] (defScope (top 45)) := ⟨rfl, rfl, rfl, by decide +kernel, rfl, by decide +kernel, by decide +kernel⟩
theorem w_facs {k : Nat} (to : TabOnly TB) (a : At K mg "factors_of" (top 45) ["scale", "name"]) (fr : Fr mg) : Df P w K mg base TB (k + 1) "factors_of" (sFacs R) :=
  mk_df to a sc_facs (by rintro ds d ⟨bs, n, rfl, _⟩; rfl) fun f cdv A outer s H E ds d hr ⟨bs, n, e1, ok, e2⟩ => by
    subst e1 e2
    have hu : (BodyX P w K mg base kfo "factors_of" (top 45) f cdv A outer s H E).A.units + 1 < cLine := by
      have := hr.un
      omega
    have few := ok.few
    refine ru_one (ru_ret (d := rD R (facs bs n)) (ev_is (ev_lcA bs (bD R) (fun b => nI R (fac b.terms n)) [("terms", 2), ("total", 3), ("by", 4)] _ [2, 3, 4] rfl sc_facs.nd (evi_list (ev_ixT (ev_n 0) ev_int rfl)) rfl (by omega) (by simp) (fun x m s H C cl fp => evg_tup rfl (evgs_cons (evg_n 2 sc_facs.nd) (evgs_cons (evg_n 3 sc_facs.nd) (evgs_cons (evg_n 4 sc_facs.nd) evgs_nil)))) (fun b m s H C cl fp => ?_)) ?_) ⟨rfl, rfl⟩)
    · exact ev_dget2 (k := .inr n) hu (ev_dictP (kvs := kT R b.terms) fr.dict rfl (ev_is (ev_n 2) (congrArg D.lst (by unfold kT; rw [List.map_map]; rfl)))) (.fz _) (ev_n 1) ev_int (by rw [kT_merge (ok.ok b m).tm.nodup]; exact kT_look _ _)
    · unfold rD facs
      rw [List.map_map]; rfl
abbrev kto : List Str := ["scale", "terms", "total", "by"]
theorem sc_tots : FnScope kto ["scale"] (defScope (top 46)) := ⟨rfl, rfl, rfl, by decide +kernel, rfl, by decide +kernel, by decide +kernel⟩
theorem w_tots {k : Nat} (to : TabOnly TB) (a : At K mg "totals_of" (top 46) ["scale"]) : Df P w K mg base TB (k + 1) "totals_of" (sTots R) :=
  mk_df to a sc_tots (by rintro ds d ⟨bs, rfl, _⟩; rfl) fun f cdv A outer s H E ds d hr ⟨bs, e1, ok, e2⟩ => by
    subst e1 e2
    have few := ok.few
    refine ru_one (ru_ret (d := rD R (bs.map fun b => b.tot)) (ev_is (ev_lcA bs (bD R) (fun b => nI R b.tot) [("terms", 1), ("total", 2), ("by", 3)] _ [1, 2, 3] rfl sc_tots.nd (evi_list (ev_ixT (ev_n 0) ev_int rfl)) rfl (by omega) (by simp) (fun x m s H C cl fp => evg_tup rfl (evgs_cons (evg_n 1 sc_tots.nd) (evgs_cons (evg_n 2 sc_tots.nd) (evgs_cons (evg_n 3 sc_tots.nd) evgs_nil)))) (fun b m s H C cl fp => ev_n 2)) ?_) ⟨rfl, rfl⟩)
    unfold rD
    rw [List.map_map]; rfl
abbrev krr : List Str := ["scale", "names", "many", "found", "name", "at", "terms", "total", "by", "other", "place"]
theorem sc_reach : FnScope krr ["scale", "names"] (defScope (top 47)) := ⟨rfl, rfl, rfl, by decide +kernel, rfl, by decide +kernel, by decide +kernel⟩
theorem ite_num (c : Prop) [Decidable c] (x y : R) : nI R (if c then x else y) = if c then nI R x else nI R y := by split <;> rfl
theorem w_reach {k : Nat} (to : TabOnly TB) (a : At K mg "reaching_rows" (top 47) ["scale", "names"]) (fr : Fr mg) (F : Df P w K mg base TB k "factors_of" (sFacs R)) : Df P w K mg base TB (k + 1) "reaching_rows" (sReach R) :=
  mk_df to a sc_reach (by rintro ds d ⟨bs, ns, rfl, _⟩; rfl) fun f cdv A outer s H E ds d hr ⟨bs, ns, e1, ok, hb, hn, e2⟩ => by
    subst e1 e2
    refine ru_cons (ru_parN rfl sc_reach.nd (i := 2) (j := 3) (by decide) (evna_cons (evn_of (d := .int (bs.length : Nat)) (ev_is (ev_len (ds := bs.map (bD R)) fr.len (ev_ixT (ev_n 0) ev_int rfl) (.fz _)) (by rw [List.length_map])) (evna_cons (evn_newL fun p hp => evna_nil ⟨_, _, rfl, ?_⟩)))))
    refine ru_cons (ru_for (fun i ρ T => ∃ v4 : Option D, T = tset TB p (rsD R ((topR bs ns).take i)) ∧ ρ = [some (scD R bs), some (.lst (ns.map .str)), some (.int (bs.length : Nat)), some (.ptr p), v4, none, none, none, none, none, none]) ⟨none, rfl, rfl⟩ PassesOwn.never rfl (evi_list (ds := ns.map D.str) (ev_n 1)) (fun i d ρ T hd ⟨v4, eT, eρ⟩ => ?_) ?_)
    · subst eT eρ
      rw [List.getElem?_map] at hd
      cases z : ns[i]? with
      | none => rw [z] at hd; cases hd
      | some n =>
        rw [z] at hd
        cases (Option.some.inj hd)
        have le : Le TB (tset TB p (rsD R ((topR bs ns).take i))) := (Le.refl TB).tset hp
        refine ⟨_, _, evg_n 4 sc_reach.nd, ru_one (ru_app (ev_n 3) tset_same (ev_cat (ev_call F le hr (eva_cons (ev_n 0) (eva_cons (ev_n 4) eva_nil)) ⟨bs, n, rfl, ok, rfl⟩) (ev_lcA ns D.str (fun o => nI R (if n = o then 1 else 0)) [("other", 9)] _ [9] rfl sc_reach.nd (evi_list (ev_n 1)) rfl (by omega) (by simp) (fun x m s H C cl fp => evg_n 9 sc_reach.nd) (fun o m s H C cl fp => ev_is (ev_intB fr.int (ev_eqS (ev_n 4) (ev_n 9))) ?_)) ?_) ?_ ⟨_, ?_, rfl⟩)⟩
        · rw [ite_num]
          unfold nI
          rw [Kd.num1, Kd.num0]
          by_cases e : n = o
          · rw [if_pos e, decide_eq_true e]; rfl
          · rw [if_neg e, decide_eq_false e]; rfl
        · unfold facs; rw [List.length_map, List.length_map, List.length_map]; omega
        · have : (topR bs ns).length = ns.length := by unfold topR; rw [List.length_map]
          rw [List.length_map, List.length_take]; omega
        · rw [tset_tset]
          unfold rsD
          have et : (topR bs ns)[i]? = some (facs bs n ++ unitR R ns n) := by unfold topR; rw [List.getElem?_map, z]; rfl
          rw [List.take_add_one, et, List.map_append]
          congr 3
          show [D.lst _] = [rD R _]
          unfold rD unitR
          rw [List.map_append, List.map_map]; rfl
    · rintro ρ T ⟨v4, eT, eρ⟩
      subst eT eρ
      rw [show (topR bs ns).take (ns.map D.str).length = topR bs ns from List.take_of_length_le (by unfold topR; rw [List.length_map, List.length_map]; exact Nat.le_refl _)]
      have few : (enumR bs).length ≤ 500 := by
        unfold enumR; rw [List.length_zip, List.length_range, Nat.min_self]; exact hb
      refine ru_cons (ru_for (fun i ρ T => ∃ v5 v6 v7 v8 : Option D, T = tset TB p (rsD R (topR bs ns ++ ((((enumR bs).take i).filter fun q => decide (0 < Kd.num q.2.by_)).map fun q => ((List.range bs.length).map fun j => if q.1 = j then q.2.by_ else 0) ++ List.replicate ns.length 0))) ∧ ρ = [some (scD R bs), some (.lst (ns.map .str)), some (.int (bs.length : Nat)), some (.ptr p), v4, v5, v6, v7, v8, none, none]) ⟨none, none, none, none, ?_, rfl⟩ PassesOwn.never rfl (evi_enum (ds := bs.map (bD R)) fr.enum (ev_ixT (ev_n 0) ev_int rfl)) (fun i d ρ T hd ⟨v5, v6, v7, v8, eT, eρ⟩ => ?_) ?_)
      · simp
      · subst eT eρ
        obtain ⟨x, hx, rfl⟩ := enumD_get hd
        rw [List.getElem?_map] at hx
        cases z : bs[i]? with
        | none => rw [z] at hx; cases hx
        | some b =>
          rw [z] at hx
          cases (Option.some.inj hx)
          have hi := (List.getElem?_eq_some_iff.mp z).1
          have et : (enumR bs)[i]? = some (i, b) := by
            unfold enumR
            rw [List.getElem?_zip_eq_some]
            exact ⟨by rw [List.getElem?_range hi], z⟩
          refine ⟨_, _, evg_tup rfl (evgs_cons (evg_n 5 sc_reach.nd) (evgs_cons (evg_tup rfl (evgs_cons (evg_n 6 sc_reach.nd) (evgs_cons (evg_n 7 sc_reach.nd) (evgs_cons (evg_n 8 sc_reach.nd) evgs_nil)))) evgs_nil)), ?_⟩
          refine ru_one (ru_if (evT_gt (ev_n 8) ev_int) (fun hk => ?_) (fun hk => ?_))
          · refine ru_one (ru_app (ev_n 3) tset_same (ev_cat (ev_lcA (List.range bs.length) (fun j => .int (j : Nat)) (fun j => nI R (if i = j then b.by_ else 0)) [("place", 10)] _ [10] rfl sc_reach.nd (evi_rangeN fr.range (ev_n 2) (by omega)) rfl (by rw [List.length_range]; omega) (by simp) (fun x m s H C cl fp => evg_n 10 sc_reach.nd) (fun j m s H C cl fp => ev_if (k := decide (i = j)) (evT_is (evT_eq (ev_n 5) (ev_n 10)) (dec_nat _ _)) (fun h => ?_) (fun h => ?_))) (ev_rep (ev_lst (eva_cons ev_int eva_nil)) (ev_len fr.len (ev_n 1) (.fz _)) (by rw [List.length_map]; omega) (by simp)) ?_) ?_ ⟨_, _, _, _, ?_, rfl⟩)
            · rw [if_pos (of_decide_eq_true h)]; exact ev_n 8
            · rw [if_neg (of_decide_eq_false h)]
              show Ev _ _ _ _ (.int (Kd.num (0 : R)))
              rw [Kd.num0]; exact ev_int
            · rw [List.length_map, List.length_range, List.length_map]
              simp
              omega
            · rw [List.length_map, List.length_append, List.length_map]
              unfold topR
              rw [List.length_map]
              have := List.length_filter_le (fun q : Nat × Bal R => decide (0 < Kd.num q.2.by_)) ((enumR bs).take i)
              rw [List.length_take] at this
              omega
            · rw [tset_tset]
              unfold rsD
              rw [List.take_add_one, et, List.filter_append, Option.toList, List.filter_cons, List.filter_nil, if_pos hk, List.map_append, List.map_append, List.map_append, List.map_append, ← List.append_assoc]
              congr 3
              show [D.lst _] = [rD R _]
              unfold rD
              rw [List.map_append, List.map_map, List.length_map, Int.toNat_natCast, List.flatten_replicate_singleton, List.map_replicate]
              unfold nI
              rw [Kd.num0]
              rfl
          · refine ru_nil ⟨_, _, _, _, ?_, rfl⟩
            rw [List.take_add_one, et, List.filter_append, Option.toList, List.filter_cons, List.filter_nil, if_neg (by rw [hk]; decide), List.append_nil]
      · rintro ρ T ⟨v5, v6, v7, v8, eT, eρ⟩
        subst eT eρ
        rw [show (enumR bs).take (enumD (bs.map (bD R))).length = enumR bs from List.take_of_length_le (by unfold enumD enumR; simp)]
        refine ru_freeze 3 rfl tset_same ?_
        rw [tdel_tset hp]
        exact ru_one (ru_ret (ev_n 3) ⟨rfl, rfl⟩)
end
end PU
set_option Elab.async false
set_option linter.all false
set_option maxRecDepth 100000
set_option maxHeartbeats 4000000
/-! W10: a scale worked through. -/
namespace PU
open PySem PySem.Spec PyProof.Rows L2 LamX
section
variable {X : Cx} {e o tg value : Expr} {ρ : Rho} {TB : Th} {d : D} {pos pos' : Pos} {R : Rs} {x : Str}
theorem ru_fld1 {C p : Addr} {fs : List Str} {ds : List D} (ho : Ev X o ρ (tset TB p (.obj C fs ds)) (.ptr p)) (hv : Ev X value ρ (tset TB p (.obj C fs ds)) d) (cl : Cls X.K C) (na : NoAttr X.K C x) (hn : R.nx ρ (tset TB p (.obj C (fs ++ [x]) (ds ++ [d])))) (hx : x ∉ fs := by decide +kernel) (hl : fs.length ≤ 100 := by decide)
    (hs : swapsWith value (some (.Attribute o x pos')) pos.line X.env = pure false := by rfl) : RuS X (.Assign [.Attribute o x pos'] value pos) ρ (tset TB p (.obj C fs ds)) R :=
  ru_fld ho tset_same hv cl na hx hl (by rw [tset_tset]; exact hn) hs
theorem evgw_fld1 {C p : Addr} {fs : List Str} {ds : List D} (ho : Ev X o ρ (tset TB p (.obj C fs ds)) (.ptr p)) (cl : Cls X.K C) (na : NoAttr X.K C x) (hx : x ∉ fs := by decide +kernel) (hl : fs.length ≤ 100 := by decide) : EvGW X (.Attribute o x pos) d ρ ρ (tset TB p (.obj C fs ds)) (tset TB p (.obj C (fs ++ [x]) (ds ++ [d]))) := by
  have := evgw_fld (d := d) (pos := pos) ho tset_same cl na hx hl
  rwa [tset_tset] at this
end
section
variable {R : Type} [Kd R]
abbrev wkF : List Str := ["kind", "many", "leads", "still", "stop", "left", "numbers"]
def wkO (R : Type) [Kd R] (m : Nat) (l : Lds R) (rows : List (List R)) (row : List R) (s : Option Nat) : List D :=
  [.str (Kd.kind R), .int m, .dk (kvL R l), rsD R (rows.map fun r => r.drop m), stD s, rD R (row.take m), rD R ((row.drop m).map fun x => -x)]
/-- what the work comes to -/
structure WkR (bs : List (Bal R)) (ns : List Str) (l : Lds R) (rows : List (List R)) (row : List R) (s : Option Nat) : Prop where
  ok : ScOk bs
  few : bs.length ≤ 500
  nfew : ns.length ≤ 60
  grid : Grw (bs.length + ns.length) 0 bs.length [] (reachR bs ns) l rows
  gfew : rows.length ≤ 1000
  work : Wrk (bs.length + ns.length) l bs.length 0 ((bs.map fun b => b.tot) ++ List.replicate ns.length 0) row s
  rfew : row.length ≤ 1000
def sWk (R : Type) [Kd R] (ds : List D) (fs : List Str) (os : List D) : Prop := ∃ (bs : List (Bal R)) (ns : List Str) (l : Lds R) (rows : List (List R)) (row : List R) (s : Option Nat), ds = [scD R bs, .lst (ns.map .str)] ∧ WkR bs ns l rows row s ∧ fs = wkF ∧ os = wkO R bs.length l rows row s
structure WkC (K : Fg) (C : Addr) : Prop where
  cl : Cls K C
  kind : NoAttr K C "kind"
  many : NoAttr K C "many"
  leads : NoAttr K C "leads"
  still : NoAttr K C "still"
  stop : NoAttr K C "stop"
  left : NoAttr K C "left"
  numbers : NoAttr K C "numbers"
def sCan (R : Type) [Kd R] (C : Addr) (ds : List D) (d : D) : Prop := ∃ (m : Nat) (l : Lds R) (rows : List (List R)) (row : List R) (s : Option Nat), ds = [.obj C wkF (wkO R m l rows row s)] ∧ d = .bl s.isNone
end
section
variable {P : Program} {w : World} {K : Fg} {mg : Str → Option Value} {base : Heap} {TB : Th} {R : Type} [Kd R]
abbrev kwi : List Str := ["self", "scale", "names", "rows", "row", "number"]
abbrev sWInit : Stmt := inClass (top 48) 0
abbrev sWCan : Stmt := inClass (top 48) 1
theorem sc_wi : FnScope kwi ["self", "scale", "names"] (defScope sWInit) := ⟨rfl, rfl, rfl, by decide +kernel, rfl, by decide +kernel, by decide +kernel⟩
theorem w_work {k : Nat} {C : Addr} (to : TabOnly TB) (a : AtI K mg "Work" C "Work.__init__" sWInit ["self", "scale", "names"]) (wc : WkC K C) (fr : Fr mg)
    (F1 : Df P w K mg base TB k "grid_of" (sGrid R)) (F2 : Df P w K mg base TB k "reaching_rows" (sReach R)) (F3 : Df P w K mg base TB k "worked" (sWork R)) (F4 : Df P w K mg base TB k "totals_of" (sTots R)) (F5 : Df P w K mg base TB k "turned_in" (sNeg R)) : Dj P w K mg base TB (k + 1) "Work" C (sWk R) :=
  mk_dj to a sc_wi (by rintro ds fs os ⟨bs, ns, l, rows, row, s, rfl, _⟩; rfl) fun f cdv A outer s H E ds fs os p hp hr ⟨bs, ns, l, rows, row, st, e1, wk, e2, e3⟩ => by
    subst e1 e2 e3
    have few := wk.few
    have nfew := wk.nfew
    have gfew := wk.gfew
    have rfew := wk.rfew
    have le : ∀ c, Le TB (tset TB p c) := fun c => (Le.refl TB).tset hp
    refine ru_cons (ru_fld1 (ev_n 0) (d := .str (Kd.kind R)) (ev_ixT (ev_n 1) ev_int rfl) wc.cl wc.kind ?_)
    refine ru_cons (ru_fld1 (ev_n 0) (d := .int (bs.length : Nat)) (ev_is (ev_len (ds := bs.map (bD R)) fr.len (ev_ixT (ev_n 1) ev_int rfl) (.fz _)) (by rw [List.length_map])) wc.cl wc.many ?_)
    refine ru_cons (ru_asgW (ev_call F1 (le _) hr (eva_cons (ev_fld (ev_n 0) (.own tset_same) wc.cl wc.kind rfl) (eva_cons (ev_call F2 (le _) hr (eva_cons (ev_n 1) (eva_cons (ev_n 2) eva_nil)) ⟨bs, ns, rfl, wk.ok, wk.few, wk.nfew, rfl⟩) (eva_cons (ev_fld (ev_n 0) (.own tset_same) wc.cl wc.many rfl) eva_nil))) ⟨reachR bs ns, rows, _, bs.length, l, rfl, by omega, wk.grid, rfl⟩) (evgw_tup rfl (evgws_cons (evgw_fld1 (ev_n 0) wc.cl wc.leads) (evgws_cons (evgw_of (evg_n 3 sc_wi.nd)) evgws_nil))) ?_)
    refine ru_cons (ru_fld1 (ev_n 0) (d := rsD R (rows.map fun r => r.drop bs.length)) (ev_is (ev_lcA rows (rD R) (fun r => rD R (r.drop bs.length)) [("row", 4)] _ [4] rfl sc_wi.nd (evi_list (ev_n 3)) rfl (by omega) (by simp) (fun x m s H C cl fp => evg_n 4 sc_wi.nd) (fun r m s H C cl fp => ev_is (ev_sl (ev_n 4) (evp_some (ev_fld (ev_n 0) (.own tset_same) wc.cl wc.many rfl)) evp_none) (by rw [cut_from, ← List.map_drop]; rfl))) (by unfold rsD; rw [List.map_map]; rfl)) wc.cl wc.still ?_)
    have zD : ∀ k : Nat, (List.replicate (Int.toNat ((k : Nat) : Int)) [D.int 0]).flatten = (List.replicate k (0 : R)).map (nI R) := fun k => by
      rw [Int.toNat_natCast, List.flatten_replicate_singleton, List.map_replicate]
      unfold nI
      rw [Kd.num0]
    refine ru_cons (ru_asgW (ev_call F3 (le _) hr (eva_cons (ev_fld (ev_n 0) (.own tset_same) wc.cl wc.kind rfl) (eva_cons (ev_fld (ev_n 0) (.own tset_same) wc.cl wc.leads rfl) (eva_cons (d := rD R ((bs.map fun b => b.tot) ++ List.replicate ns.length 0)) (ev_is (ev_cat (ev_call F4 (le _) hr (eva_cons (ev_n 1) eva_nil) ⟨bs, rfl, wk.ok, rfl⟩) (ev_rep (ev_lst (eva_cons ev_int eva_nil)) (ev_len fr.len (ev_n 2) (.fz _)) (by rw [List.length_map]; omega) (by simp)) ?_) ?_) (eva_cons (ev_fld (ev_n 0) (.own tset_same) wc.cl wc.many rfl) eva_nil)))) ⟨l, _, bs.length, _, row, st, rfl, by omega, wk.work, rfl⟩) (evgw_tup rfl (evgws_cons (evgw_of (evg_n 4 sc_wi.nd)) (evgws_cons (evgw_fld1 (ev_n 0) wc.cl wc.stop) evgws_nil))) ?_)
    · rw [List.length_map, List.length_map, List.length_map, zD, List.length_map, List.length_replicate]; omega
    · rw [List.length_map, zD]
      unfold rD
      rw [List.map_append]
    refine ru_cons (ru_fld1 (ev_n 0) (d := rD R (row.take bs.length)) (ev_is (ev_sl (ev_n 4) evp_none (evp_some (ev_fld (ev_n 0) (.own tset_same) wc.cl wc.many rfl))) (by rw [cut_to, ← List.map_take]; rfl)) wc.cl wc.left ?_)
    have dfew : (row.drop bs.length).length ≤ 1000 := by rw [List.length_drop]; omega
    refine ru_one (ru_fld1 (ev_n 0) (d := rD R ((row.drop bs.length).map fun x => -x)) (ev_is (ev_lcA (row.drop bs.length) (nI R) (fun x => nI R (-x)) [("number", 5)] _ [5] rfl sc_wi.nd (evi_list (ev_is (ev_sl (ev_n 4) (evp_some (ev_fld (ev_n 0) (.own tset_same) wc.cl wc.many rfl)) evp_none) (by rw [cut_from, ← List.map_drop]))) rfl (by omega) (by simp) (fun x m s H C cl fp => evg_n 5 sc_wi.nd) (fun x m s H C cl fp => ev_call F5 (le _) hr (eva_cons (ev_fld (ev_n 0) (.own tset_same) wc.cl wc.kind rfl) (eva_cons (ev_n 5) eva_nil)) ⟨x, rfl, rfl⟩)) (by unfold rD; rw [List.map_map]; rfl)) wc.cl wc.numbers ?_)
    rfl
theorem sc_wcan : FnScope ["self"] ["self"] (defScope sWCan) := ⟨rfl, rfl, rfl, by decide +kernel, rfl, by decide +kernel, by decide +kernel⟩
theorem w_can {k : Nat} {C : Addr} (to : TabOnly TB) (a : AtM K C "can" "Work.can" sWCan ["self"]) (wc : WkC K C) : Dm P w K mg base TB (k + 1) C "can" (sCan R C) :=
  mk_dm to a sc_wcan (by rintro ds d ⟨m, l, rows, row, s, rfl, _⟩; rfl) fun f cdv A outer s H E ds d hr ⟨m, l, rows, row, st, e1, e2⟩ => by
    subst e1 e2
    refine ru_one (ru_ret (ev_is (ev_isN (ev_fld (ev_n 0) (.fz _) wc.cl wc.stop rfl)) ?_) ⟨rfl, rfl⟩)
    cases st <;> rfl
def sCanBal (R : Type) [Kd R] (ds : List D) (d : D) : Prop := ∃ (bs : List (Bal R)) (ns : List Str) (l : Lds R) (rows : List (List R)) (row : List R) (s : Option Nat), ds = [scD R bs] ∧ NmOf bs ns ∧ WkR bs ns l rows row s ∧ d = .bl s.isNone
theorem sc_canb : FnScope ["scale"] ["scale"] (defScope (top 49)) := ⟨rfl, rfl, rfl, by decide +kernel, rfl, by decide +kernel, by decide +kernel⟩
theorem w_canbal {k : Nat} {C : Addr} (to : TabOnly TB) (a : At K mg "can_be_balanced" (top 49) ["scale"]) (wc : WkC K C) (F1 : Df P w K mg base TB (k + 1) "check_scale" (sCheck R)) (F2 : Dj P w K mg base TB k "Work" C (sWk R)) (F3 : Dm P w K mg base TB (k + 1) C "can" (sCan R C)) (F4 : Df P w K mg base TB (k + 1) "names_in_scale" (sNmIn R)) : Df P w K mg base TB (k + 2) "can_be_balanced" (sCanBal R) :=
  mk_df to a sc_canb (by rintro ds d ⟨bs, ns, l, rows, row, s, rfl, _⟩; rfl) fun f cdv A outer s H E ds d hr ⟨bs, ns, l, rows, row, st, e1, nm, wk, e2⟩ => by
    subst e1 e2
    refine ru_cons (ru_expr (ev_call F1 (Le.refl _) hr (eva_cons (ev_n 0) eva_nil) ⟨bs, rfl, wk.ok, rfl⟩) ?_)
    exact ru_one (ru_ret (ev_meth0 (pl := _) F3 (Le.refl _) hr wc.cl (ev_make F2 (Le.refl _) hr (eva_cons (ev_n 0) (eva_cons (ev_call F4 (Le.refl _) hr (eva_cons (ev_n 0) eva_nil) ⟨bs, ns, rfl, wk.ok, nm, rfl⟩) eva_nil)) ⟨bs, ns, l, rows, row, st, rfl, wk, rfl, rfl⟩) ⟨_, l, rows, row, st, rfl, rfl⟩ (by decide +kernel)) ⟨rfl, rfl⟩)
end
end PU
set_option Elab.async false
set_option linter.all false
set_option maxRecDepth 100000
set_option maxHeartbeats 4000000
/-! W11: spreads and turns. -/
namespace PU
open PySem PySem.Spec PyProof.Rows L2 LamX
section
variable {R : Type} [Kd R]
theorem TdI.keys {n c : Nat} {es : List Nat} {l out : Lds R} (h : TdI n c es l out) : keysL out = keysL l := by
  induction h with
  | stop => rfl
  | step _ _ _ _ ih => rw [ih, setL_keys]
theorem TdO.keys {n i : Nat} {ks : List Nat} {l out : Lds R} (h : TdO n ks i l out) : keysL out = keysL l := by
  induction h with
  | stop => rfl
  | step _ h1 _ ih => rw [ih, h1.keys]
abbrev spF : List Str := ["kind", "names", "leads", "first"]
def spO (R : Type) [Kd R] (ns : List Str) (out : Lds R) (first : List R) : List D := [.str (Kd.kind R), .lst (ns.map .str), .dk (kvL R out), rD R first]
structure SpR (ns : List Str) (numbers : List R) (rows : List (List R)) (out : Lds R) (first : List R) : Prop where
  nfew : ns.length < 60
  ex : ∃ l left, Grw ns.length 0 ns.length [] rows l left ∧ Asc l ∧ l.length < 60 ∧ TdO ns.length (keysL l) 0 l out
  rest : Rst ns.length out (keysL out) numbers first
def sSp (R : Type) [Kd R] (ds : List D) (fs : List Str) (os : List D) : Prop := ∃ (ns : List Str) (numbers : List R) (rows : List (List R)) (out : Lds R) (first : List R), ds = [.str (Kd.kind R), .lst (ns.map .str), rD R numbers, rsD R rows] ∧ SpR ns numbers rows out first ∧ fs = spF ∧ os = spO R ns out first
structure SpC (K : Fg) (C : Addr) : Prop where
  cl : Cls K C
  kind : NoAttr K C "kind"
  names : NoAttr K C "names"
  leads : NoAttr K C "leads"
  first : NoAttr K C "first"
def sStr (R : Type) [Kd R] (C : Addr) (ds : List D) (d : D) : Prop := ∃ (ns : List Str) (out : Lds R) (first : List R), ds = [.obj C spF (spO R ns out first)] ∧ Asc out ∧ out.length < 60 ∧ d = rsD R (out.map fun p => p.2)
theorem Asc.lk {l : Lds R} (h : Asc l) {p : Nat × List R} (hp : p ∈ l) : lk l p.1 = some p.2 := by
  unfold PU.lk
  unfold Asc keysL at h
  rw [List.pairwise_map] at h
  induction l with
  | nil => cases hp
  | cons q l ih =>
    rw [List.pairwise_cons] at h
    rw [List.find?_cons]
    rcases List.mem_cons.mp hp with e | e
    · subst e; rw [decide_eq_true rfl]; rfl
    · have := h.1 p e
      rw [decide_eq_false (by omega)]
      exact ih h.2 e
theorem SpR.asc {ns : List Str} {numbers : List R} {rows : List (List R)} {out : Lds R} {first : List R} (h : SpR ns numbers rows out first) : Asc out ∧ out.length < 60 := by
  obtain ⟨l, left, h1, h2, h3, h4⟩ := h.ex
  have e := h4.keys
  refine ⟨by unfold Asc; rw [e]; exact h2, ?_⟩
  have := congrArg List.length e
  unfold keysL at this
  rw [List.length_map, List.length_map] at this
  omega
/-- how many rests of x leave one rest by y -/
def cho (x y : R) : Nat := Kd.size x / Kd.size y
def sCho (R : Type) [Kd R] (ds : List D) (d : D) : Prop := ∃ x y : R, ds = [.str (Kd.kind R), nI R x, nI R y] ∧ 0 < Kd.num y ∧ Kd.num y ≤ Kd.num x ∧ bitsOf (Kd.num y) ≤ 9000 ∧ bitsOf (Kd.num x) ≤ 9000 ∧ d = .int (cho x y : Nat)
def prodN : List Nat → Nat
  | [] => 1
  | n :: ns => n * prodN ns
def sProd (ds : List D) (d : D) : Prop := ∃ ns : List Nat, ds = [.lst (ns.map fun n : Nat => D.int (n : Nat))] ∧ ns.length ≤ 60 ∧ (∀ n ∈ ns, n < 2 ^ 9000) ∧ d = .int (prodN ns : Nat)
/-- a column of a leading row is a divisor of the period -/
structure ChoOk (p : R) (out : Lds R) : Prop where
  keys : keysL out = List.range out.length
  len : ∀ q ∈ out, out.length ≤ q.2.length
  pos : ∀ q ∈ out, 0 < Kd.num (col q.1 q.2) ∧ Kd.num (col q.1 q.2) ≤ Kd.num p
  few : bitsOf (Kd.num p) ≤ 9000
def chos (p : R) (out : Lds R) : List Nat := out.map fun q => cho p (col q.1 q.2)
def sChos (R : Type) [Kd R] (C : Addr) (ds : List D) (d : D) : Prop := ∃ (ns : List Str) (out : Lds R) (first : List R) (p : R), ds = [.obj C spF (spO R ns out first), nI R p] ∧ Asc out ∧ out.length < 60 ∧ ChoOk p out ∧ d = .lst ((chos p out).map fun n : Nat => D.int (n : Nat))
end
section
variable {P : Program} {w : World} {K : Fg} {mg : Str → Option Value} {base : Heap} {TB : Th} {R : Type} [Kd R]
abbrev ksi : List Str := ["self", "kind", "names", "numbers", "rows"]
abbrev sSInit : Stmt := inClass (top 51) 0
abbrev sSStr : Stmt := inClass (top 51) 1
theorem sc_si : FnScope ksi ksi (defScope sSInit) := ⟨rfl, rfl, rfl, by decide +kernel, rfl, by decide +kernel, by decide +kernel⟩
theorem w_spread {k : Nat} {C : Addr} (to : TabOnly TB) (a : AtI K mg "Spread" C "Spread.__init__" sSInit ksi) (wc : SpC K C) (fr : Fr mg)
    (F1 : Df P w K mg base TB k "grid_of" (sGrid R)) (F2 : Df P w K mg base TB k "tidied" (sTidy R)) (F3 : Df P w K mg base TB k "rested" (sRst R)) : Dj P w K mg base TB (k + 1) "Spread" C (sSp R) :=
  mk_dj to a sc_si (by rintro ds fs os ⟨ns, numbers, rows, out, first, rfl, _⟩; rfl) fun f cdv A outer s H E ds fs os p hp hr ⟨ns, numbers, rows, out, first, e1, sp, e2, e3⟩ => by
    subst e1 e2 e3
    have le : ∀ c, Le TB (tset TB p c) := fun c => (Le.refl TB).tset hp
    obtain ⟨l, left, h1, h2, h3, h4⟩ := sp.ex
    have nfew := sp.nfew
    refine ru_cons (ru_fld1 (ev_n 0) (d := .str (Kd.kind R)) (ev_n 1) wc.cl wc.kind ?_)
    refine ru_cons (ru_fld1 (ev_n 0) (d := .lst (ns.map .str)) (ev_n 2) wc.cl wc.names ?_)
    refine ru_cons (ru_fld1 (ev_n 0) (ev_call F2 (le _) hr (eva_cons (ev_n 1) (eva_cons (ev_ixT (ev_call F1 (le _) hr (eva_cons (ev_n 1) (eva_cons (ev_n 4) (eva_cons (ev_is (ev_len fr.len (ev_n 2) (.fz _)) (by rw [List.length_map])) eva_nil))) ⟨rows, left, ns.length, ns.length, l, rfl, by omega, h1, rfl⟩) ev_int rfl) eva_nil)) ⟨l, out, _, rfl, h2, h3, h4, rfl⟩) wc.cl wc.leads ?_)
    exact ru_one (ru_fld1 (ev_n 0) (ev_call F3 (le _) hr (eva_cons (ev_n 1) (eva_cons (ev_fld (ev_n 0) (.own tset_same) wc.cl wc.leads rfl) (eva_cons (ev_n 3) eva_nil))) ⟨out, _, numbers, first, rfl, sp.asc.1, sp.asc.2, sp.rest, rfl⟩) wc.cl wc.first rfl)
theorem sc_sstr : FnScope ["self", "column"] ["self"] (defScope sSStr) := ⟨rfl, rfl, rfl, by decide +kernel, rfl, by decide +kernel, by decide +kernel⟩
theorem w_strides {k : Nat} {C : Addr} (to : TabOnly TB) (a : AtM K C "strides" "Spread.strides" sSStr ["self"]) (wc : SpC K C) (fr : Fr mg) : Dm P w K mg base TB (k + 1) C "strides" (sStr R C) :=
  mk_dm to a sc_sstr (by rintro ds d ⟨ns, out, first, rfl, _⟩; rfl) fun f cdv A outer s H E ds d hr ⟨ns, out, first, e1, h1, h2, e2⟩ => by
    subst e1 e2
    have hu : (BodyX P w K mg base ["self", "column"] "Spread.strides" sSStr f cdv A outer s H E).A.units + 1 < cLine := by
      have := hr.un
      omega
    refine ru_one (ru_ret (d := rsD R (out.map fun p => p.2)) (ev_is (ev_lcA out (fun p => .int (p.1 : Nat)) (fun p => rD R p.2) [("column", 1)] _ [1] rfl sc_sstr.nd (evi_list (ev_is (ev_sortedDI fr.sorted rfl (ev_fld (ev_n 0) (.fz _) wc.cl wc.leads rfl) (.fz _) (kvL_keys out) (by rw [List.length_map]; omega) (fun ys hp hs => perm_sorted hp hs h1.ints)) (by rw [List.map_map]; rfl))) rfl (by omega) (by simp) (fun x m s H C cl fp => evg_n 1 sc_sstr.nd) (fun p m s H C cl fp => ev_ld hu (ev_fld (ev_n 0) (.fz _) wc.cl wc.leads rfl) (.fz _) (ev_n 1) (h1.lk m))) ?_) ⟨rfl, rfl⟩)
    unfold rsD
    rw [List.map_map]; rfl
abbrev kco : List Str := ["kind", "period", "by"]
theorem sc_cho : FnScope kco kco (defScope (top 42)) := ⟨rfl, rfl, rfl, by decide +kernel, rfl, by decide +kernel, by decide +kernel⟩
theorem w_choI {k : Nat} (to : TabOnly TB) (a : At K mg "choices_of" (top 42) kco) : Df P w K mg base TB (k + 1) "choices_of" (sCho Int) :=
  mk_df to a sc_cho (by rintro ds d ⟨x, y, rfl, _⟩; rfl) fun f cdv A outer s H E ds d hr ⟨x, y, e1, h1, h2, h3, h4, e2⟩ => by
    subst e1 e2
    refine ru_one (ru_ret (ev_if (k := true) (evT_is (evT_eqS (ev_n 0) ev_str) hI) (fun _ => ev_is (ev_fdiv (ev_n 1) (ev_n 2) (cdiv_of h1 h3)) ?_) nofun) ⟨rfl, rfl⟩)
    have h1' : (0 : Int) < y := h1
    have h2' : y ≤ x := h2
    show D.int (x / y) = .int ((x.toNat / y.toNat : Nat) : Int)
    congr 1
    rw [Int.natCast_ediv, Int.toNat_of_nonneg (by omega), Int.toNat_of_nonneg (by omega)]
theorem w_choP {k : Nat} (to : TabOnly TB) (a : At K mg "choices_of" (top 42) kco) : Df P w K mg base TB (k + 1) "choices_of" (sCho Pol) :=
  mk_df to a sc_cho (by rintro ds d ⟨x, y, rfl, _⟩; rfl) fun f cdv A outer s H E ds d hr ⟨x, y, e1, h1, h2, h3, h4, e2⟩ => by
    subst e1 e2
    have h1' : 0 < y.val := by have : (0 : Int) < (y.val : Int) := h1; omega
    have h2' : y.val ≤ x.val := by have : (y.val : Int) ≤ (x.val : Int) := h2; omega
    have b1 := bl_pos h1'
    have b2 : bl y.val ≤ bl x.val := bl_le (Nat.lt_of_le_of_lt h2' (lt_bl _))
    have b3 : bl x.val ≤ 9000 := by rw [← bits_nat]; exact h4
    have eb : ((Builtin.Int.intBits (Kd.num x) : Nat) : Int) - (Builtin.Int.intBits (Kd.num y) : Nat) = ((bl x.val - bl y.val : Nat) : Int) := by
      rw [show Builtin.Int.intBits (Kd.num x) = bl x.val from bits_nat _, show Builtin.Int.intBits (Kd.num y) = bl y.val from bits_nat _]; omega
    refine ru_one (ru_ret (ev_if (k := false) (evT_is (evT_eqS (ev_n 0) ev_str) hP) nofun (fun _ => ev_is (ev_shl ev_int (ev_is (ev_sub (ev_bits (ev_n 1)) (ev_bits (ev_n 2))) (congrArg D.int eb)) ⟨by omega, by rw [show Builtin.Int.intBits 1 = 1 from rfl]; omega⟩) ?_)) ⟨rfl, rfl⟩)
    show D.int _ = .int ((2 ^ (bl x.val - 1) / 2 ^ (bl y.val - 1) : Nat) : Int)
    rw [Nat.pow_div (by omega) (by decide), show bl x.val - 1 - (bl y.val - 1) = bl x.val - bl y.val by omega, Int.toNat_natCast]
    simp
theorem sc_prod : FnScope ["counts", "found", "count"] ["counts"] (defScope (top 43)) := ⟨rfl, rfl, rfl, by decide +kernel, rfl, by decide +kernel, by decide +kernel⟩
theorem prodN_app : ∀ (a : List Nat) (n : Nat), prodN (a ++ [n]) = prodN a * n
  | [], n => by simp [prodN]
  | x :: a, n => by
    show x * prodN (a ++ [n]) = x * prodN a * n
    rw [prodN_app a n, Nat.mul_assoc]
theorem prodN_lt : ∀ (a : List Nat), (∀ n ∈ a, n < 2 ^ 9000) → prodN a ≤ 2 ^ (9000 * a.length)
  | [], _ => by simp [prodN]
  | x :: a, h => by
    have h1 := h x List.mem_cons_self
    have h2 := prodN_lt a fun n hn => h n (List.mem_cons_of_mem _ hn)
    show x * prodN a ≤ _
    rw [List.length_cons, Nat.mul_succ, Nat.pow_add, Nat.mul_comm]
    exact Nat.mul_le_mul h2 (Nat.le_of_lt h1)
theorem w_prod {k : Nat} (to : TabOnly TB) (a : At K mg "product_of" (top 43) ["counts"]) : Df P w K mg base TB (k + 1) "product_of" sProd :=
  mk_df to a sc_prod (by rintro ds d ⟨x, rfl, _⟩; rfl) fun f cdv A outer s H E ds d hr ⟨ns, e1, h1, h2, e2⟩ => by
    subst e1 e2
    refine ru_cons (ru_set 1 sc_prod.nd ev_int ?_)
    refine ru_cons (ru_for (fun i ρ T => T = TB ∧ ∃ v : Option D, ρ = [some (.lst (ns.map fun n : Nat => D.int (n : Nat))), some (.int (prodN (ns.take i) : Nat)), v]) ⟨rfl, none, rfl⟩ PassesOwn.never rfl (evi_list (ev_n 0)) (fun i d ρ T hd ⟨eT, v, eρ⟩ => ?_) ?_)
    · subst eT eρ
      rw [List.getElem?_map] at hd
      cases z : ns[i]? with
      | none => rw [z] at hd; cases hd
      | some n =>
        rw [z] at hd
        cases (Option.some.inj hd)
        have hn := h2 n (List.mem_of_getElem? z)
        have hp := prodN_lt (ns.take i) fun m hm => h2 m (List.mem_of_mem_take hm)
        have hl : (ns.take i).length ≤ 60 := by rw [List.length_take]; omega
        have b1 : bl n ≤ 9000 := bl_le hn
        have b2 : bl (prodN (ns.take i)) ≤ 9000 * 60 + 1 := bl_le (Nat.lt_of_le_of_lt hp (Nat.pow_lt_pow_right (by decide) (by omega)))
        refine ⟨_, _, evg_n 2 sc_prod.nd, ru_one (ru_set 1 sc_prod.nd (ev_mul (ev_n 1) (ev_n 2) ?_) ⟨rfl, some (.int (n : Nat)), ?_⟩)⟩
        · unfold CMulX
          rw [show Builtin.Int.intBits ((prodN (ns.take i) : Nat) : Int) = bl (prodN (ns.take i)) from bits_nat _, show Builtin.Int.intBits ((n : Nat) : Int) = bl n from bits_nat _]
          omega
        · show [_, _, _] = _
          rw [List.take_add_one, z, Option.toList, prodN_app]
          simp
    · rintro ρ T ⟨eT, v, eρ⟩
      subst eT eρ
      rw [List.length_map, List.take_length]
      exact ru_one (ru_ret (ev_n 1) ⟨rfl, rfl⟩)
end
end PU
set_option Elab.async false
set_option linter.all false
set_option maxRecDepth 100000
set_option maxHeartbeats 4000000
/-! W12: turns counted. -/
namespace PU
open PySem PySem.Spec PyProof.Rows L2 LamX
section
variable {X : Cx} {e tg : Expr} {ρ : Rho} {T : Th} {pos : Pos} {R : Rs}
theorem ru_asgN (h : EvN X e ρ T fun d T' => ∃ ρ' js, EvG X tg d ρ ρ' js ∧ R.nx ρ' T') (hs : swapsWithSole [tg] e pos.line X.env = pure false := by rfl) (hw : swappedStores [tg] e X.env = pure none := by rfl)
    (h1 : (assignEach [tg] X.env).map (·.2) = [assign tg X.env] := by rfl) : RuS X (.Assign [tg] e pos) ρ T R :=
  PS_imp (ps_asg h (g := fun v σ H Q => ∃ d ρ1 ρ2 js, EvG X tg d ρ1 ρ2 js ∧ tG X.K d ρ1 ρ2 js v σ H Q) ⟨fun pins s σ H v u Q I r ⟨d, ρ1, ρ2, js, h, q⟩ => h.run pins s σ H v u Q I r q⟩ hs hw h1) fun D σ H ⟨Hf, Hr, w, en, k⟩ =>
    ⟨Hf, Hr, w, en, fun d T' v H2 Hf2 ⟨ρ', js, hg, hn⟩ e2 w2 i => ⟨d, ρ, ρ', js, hg, Hf2, w2.f, en.mono e2, i, fun σ' en' _ => k.1 ρ' T' σ' H2 Hf2 hn e2 w2 en'⟩⟩
end
section
variable {R : Type} [Kd R]
theorem zip_self {α β : Type} : ∀ (l : List (α × β)), (l.map fun p => p.1).zip (l.map fun p => p.2) = l
  | [] => rfl
  | p :: l => by rw [List.map_cons, List.map_cons, List.zip_cons_cons, zip_self l]
theorem enumR_out {out : Lds R} (h : keysL out = List.range out.length) : enumR (out.map fun p => p.2) = out := by
  unfold enumR
  rw [List.length_map, ← h, zip_self]
structure PerOk (bs : List (Bal R)) (p : R) : Prop where
  pos : 1 ≤ Kd.num p
  few : bitsOf (Kd.num p) ≤ 9000
  all : ∀ b ∈ bs, 0 < Kd.num b.by_ ∧ Kd.num (Kd.rem p b.by_) = 0
def sPer (R : Type) [Kd R] (ds : List D) (d : D) : Prop := ∃ (bs : List (Bal R)) (p : R), ds = [scD R bs, nI R p] ∧ ScOk bs ∧ PerOk bs p ∧ d = .bl true
def sChkT (R : Type) [Kd R] (ds : List D) (d : D) : Prop := ∃ (bs : List (Bal R)) (p : R), ds = [scD R bs, nI R p] ∧ ScOk bs ∧ PerOk bs p ∧ d = .non
def sTurned (R : Type) [Kd R] (ds : List D) (d : D) : Prop := ∃ (bs : List (Bal R)) (p : R), ds = [scD R bs, nI R p] ∧ ScOk bs ∧ PerOk bs p ∧ d = scD R bs
def wholeR (p : R) (k : Nat) : List (List R) := (List.range k).map fun i => (List.range k).map fun j => if i = j then p else 0
/-- what the spread of the turns comes to -/
structure TuR (bs : List (Bal R)) (p : R) (ns : List Str) (l : Lds R) (rows : List (List R)) (row : List R) (s : Option Nat) (out : Lds R) (first : List R) : Prop where
  nm : NmOf bs ns
  per : PerOk bs p
  wk : WkR bs ns l rows row s
  sp : s = none → SpR ns ((row.drop bs.length).map fun x => -x) ((rows.map fun r => r.drop bs.length) ++ wholeR p ns.length) out first
def sTuSp (R : Type) [Kd R] (C : Addr) (ds : List D) (d : D) : Prop := ∃ (bs : List (Bal R)) (p : R) (ns : List Str) (l : Lds R) (rows : List (List R)) (row : List R) (s : Option Nat) (out : Lds R) (first : List R), ds = [scD R bs, nI R p] ∧ TuR bs p ns l rows row s out first ∧ d = if s = none then .obj C spF (spO R ns out first) else .non
def sMany (R : Type) [Kd R] (ds : List D) (d : D) : Prop := ∃ (bs : List (Bal R)) (p : R) (ns : List Str) (l : Lds R) (rows : List (List R)) (row : List R) (s : Option Nat) (out : Lds R) (first : List R), ds = [scD R bs, nI R p] ∧ TuR bs p ns l rows row s out first ∧ (s = none → ChoOk p out ∧ ∀ n ∈ chos p out, n < 2 ^ 9000) ∧ d = .int (if s = none then ((prodN (chos p out) : Nat) : Int) else 0)
end
section
variable {P : Program} {w : World} {K : Fg} {mg : Str → Option Value} {base : Heap} {TB : Th} {R : Type} [Kd R]
abbrev kcb : List Str := ["spread", "period", "row", "at"]
theorem sc_chos : FnScope kcb ["spread", "period"] (defScope (top 57)) := ⟨rfl, rfl, rfl, by decide +kernel, rfl, by decide +kernel, by decide +kernel⟩
theorem w_chos {k : Nat} {C : Addr} (to : TabOnly TB) (a : At K mg "choices_by" (top 57) ["spread", "period"]) (wc : SpC K C) (fr : Fr mg) (F1 : Dm P w K mg base TB k C "strides" (sStr R C)) (F2 : Df P w K mg base TB k "choices_of" (sCho R)) : Df P w K mg base TB (k + 1) "choices_by" (sChos R C) :=
  mk_df to a sc_chos (by rintro ds d ⟨ns, out, first, p, rfl, _⟩; rfl) fun f cdv A outer s H E ds d hr ⟨ns, out, first, p, e1, h1, h2, h3, e2⟩ => by
    subst e1 e2
    have few : (enumR (out.map fun p => p.2)).length ≤ 60 := by rw [enumR_out h3.keys]; omega
    refine ru_one (ru_ret (ev_is (ev_lcA (enumR (out.map fun p => p.2)) (fun q => .tup [.int (q.1 : Nat), rD R q.2]) (fun q => .int (cho p (col q.1 q.2) : Nat)) [("at", 3), ("row", 2)] _ [3, 2] rfl sc_chos.nd ((enumR_D (rD R) (out.map fun p => p.2)) ▸ evi_enum fr.enum (ev_meth0 (pl := _) F1 (Le.refl _) hr wc.cl (ev_n 0) ⟨ns, out, first, rfl, h1, h2, rfl⟩ (by decide +kernel))) rfl (by omega) (by simp) (fun x m s H C cl fp => evg_tup rfl (evgs_cons (evg_n 3 sc_chos.nd) (evgs_cons (evg_n 2 sc_chos.nd) evgs_nil))) (fun q m s H C cl fp => ?_)) ?_) ⟨rfl, rfl⟩)
    · rw [enumR_out h3.keys] at m
      have hl : q.1 < q.2.length := by
        have h5 := h3.len q m
        have h6 : q.1 ∈ keysL out := List.mem_map.mpr ⟨q, m, rfl⟩
        rw [h3.keys, List.mem_range] at h6
        omega
      have hp := h3.pos q m
      have hb : bitsOf (Kd.num (col q.1 q.2)) ≤ 9000 := by
        have h7 := h3.few
        have e1 : Kd.num (col q.1 q.2) = (((Kd.num (col q.1 q.2)).toNat : Nat) : Int) := by omega
        have e2 : Kd.num p = (((Kd.num p).toNat : Nat) : Int) := by omega
        rw [e2, bits_nat] at h7
        rw [e1, bits_nat]
        have := bl_le (n := (Kd.num (col q.1 q.2)).toNat) (k := bl (Kd.num p).toNat) (Nat.lt_of_le_of_lt (by omega) (lt_bl _))
        omega
      exact ev_call F2 (Le.refl _) hr (eva_cons (ev_fld (ev_n 0) (.fz _) wc.cl wc.kind rfl) (eva_cons (ev_n 1) (eva_cons (ev_ix (ev_n 2) (ev_n 3) (at_row hl)) eva_nil))) ⟨p, _, rfl, hp.1, hp.2, hb, h3.few, rfl⟩
    · rw [enumR_out h3.keys]
      unfold chos
      rw [List.map_map]; rfl
abbrev kpf : List Str := ["scale", "value", "terms", "total", "by"]
theorem sc_per : FnScope kpf ["scale", "value"] (defScope (top 52)) := ⟨rfl, rfl, rfl, by decide +kernel, rfl, by decide +kernel, by decide +kernel⟩
theorem w_per {k : Nat} (to : TabOnly TB) (a : At K mg "period_fits" (top 52) ["scale", "value"]) (F1 : Df P w K mg base TB k "is_whole" sWhole) (F2 : Df P w K mg base TB k "is_multiple_in" (sMult R)) : Df P w K mg base TB (k + 1) "period_fits" (sPer R) :=
  mk_df to a sc_per (by rintro ds d ⟨bs, p, rfl, _⟩; rfl) fun f cdv A outer s H E ds d hr ⟨bs, p, e1, ok, h1, e2⟩ => by
    subst e1 e2
    have hu : (BodyX P w K mg base kpf "period_fits" (top 52) f cdv A outer s H E).A.units + 64 < cLine := by
      have := hr.un
      omega
    have few := ok.few
    have h11 := h1.pos
    refine ru_cons (ru_if (k := false) (evT_w (evT_is' (evW_or (k := false) (l := false) (evT_is (evT_not (k := true) (evT_val (ev_call F1 (Le.refl _) hr (eva_cons (ev_n 1) eva_nil) ⟨_, rfl, rfl⟩))) rfl) fun _ => evW_or1 (evT_is (evT_lt (ev_n 1) ev_int) (by rw [decide_eq_false (by omega)]))) rfl)) nofun fun _ => ru_nil ?_)
    refine ru_one (ru_ret (ev_eq00 hu (ev_lcZ bs (bD R) [("terms", 2), ("total", 3), ("by", 4)] _ [2, 3, 4] rfl sc_per.nd (evi_list (ev_ixT (ev_n 0) ev_int rfl)) rfl (by omega) (by simp) (fun x m s H C cl fp => evg_tup rfl (evgs_cons (evg_n 2 sc_per.nd) (evgs_cons (evg_n 3 sc_per.nd) (evgs_cons (evg_n 4 sc_per.nd) evgs_nil)))) (fun b m s H C cl fp => ?_)) (ev_lst eva_nil)) ⟨rfl, rfl⟩)
    obtain ⟨q1, q2⟩ := h1.all b m
    have bo := (ok.ok b m).by_
    have psm : bitsOf (Kd.num p) ≤ 2 ^ 25 := Nat.le_trans h1.few (by decide)
    exact evts_one (evT_w (evT_is' (evW_and (k := true) (l := false) (evT_is (evT_gt (ev_n 4) ev_int) (decide_eq_true q1)) fun _ => evW_and1 (evT_is (evT_not (k := true) (evT_val (ev_call F2 (Le.refl _) hr (eva_cons (ev_ixT (ev_n 0) ev_int rfl) (eva_cons (ev_n 1) (eva_cons (ev_n 4) eva_nil))) ⟨p, b.by_, rfl, psm, bo.nn, bo.few, by rw [decide_eq_true q2]⟩))) rfl)) rfl))
theorem sc_chkT : FnScope ["scale", "period"] ["scale", "period"] (defScope (top 54)) := ⟨rfl, rfl, rfl, by decide +kernel, rfl, by decide +kernel, by decide +kernel⟩
theorem w_chkT {k : Nat} (to : TabOnly TB) (a : At K mg "check_turn" (top 54) ["scale", "period"]) (F1 : Df P w K mg base TB k "check_scale" (sCheck R)) (F2 : Df P w K mg base TB k "period_fits" (sPer R)) : Df P w K mg base TB (k + 1) "check_turn" (sChkT R) :=
  mk_df to a sc_chkT (by rintro ds d ⟨bs, p, rfl, _⟩; rfl) fun f cdv A outer s H E ds d hr ⟨bs, p, e1, ok, h1, e2⟩ => by
    subst e1 e2
    refine ru_cons (ru_expr (ev_call F1 (Le.refl _) hr (eva_cons (ev_n 0) eva_nil) ⟨bs, rfl, ok, rfl⟩) ?_)
    exact ru_one (ru_if (k := false) (evT_is (evT_not (k := true) (evT_val (ev_call F2 (Le.refl _) hr (eva_cons (ev_n 0) (eva_cons (ev_n 1) eva_nil)) ⟨bs, p, rfl, ok, h1, rfl⟩))) rfl) nofun fun _ => ru_nil ⟨rfl, rfl⟩)
abbrev ktu : List Str := ["scale", "period", "kind", "found", "rests", "terms", "total", "by", "name", "factor", "term"]
theorem sc_turnd : FnScope ktu ["scale", "period"] (defScope (top 55)) := ⟨rfl, rfl, rfl, by decide +kernel, rfl, by decide +kernel, by decide +kernel⟩
theorem w_turnd {k : Nat} (to : TabOnly TB) (a : At K mg "turned_scale" (top 55) ["scale", "period"]) : Df P w K mg base TB (k + 1) "turned_scale" (sTurned R) :=
  mk_df to a sc_turnd (by rintro ds d ⟨bs, p, rfl, _⟩; rfl) fun f cdv A outer s H E ds d hr ⟨bs, p, e1, ok, h1, e2⟩ => by
    subst e1 e2
    have few := ok.few
    refine ru_cons (ru_asgN (evn_tup (evna_cons (evn_of (ev_ixT (ev_n 0) ev_int (d := .str (Kd.kind R)) rfl) (evna_cons (evn_newL fun q hq => evna_nil ⟨by simp, _, _, evg_tup rfl (evgs_cons (evg_n 2 sc_turnd.nd) (evgs_cons (evg_n 3 sc_turnd.nd) evgs_nil)), ?_⟩))))))
    refine ru_cons (ru_for (fun i ρ T => ∃ v5 v6 v7 : Option D, T = tset TB q (.lst ((bs.take i).map (bD R))) ∧ ρ = [some (scD R bs), some (nI R p), some (.str (Kd.kind R)), some (.ptr q), none, v5, v6, v7, none, none, none]) ⟨none, none, none, rfl, rfl⟩ PassesOwn.never rfl (evi_list (ds := bs.map (bD R)) (ev_ixT (ev_n 0) ev_int rfl)) (fun i d ρ T hd ⟨v5, v6, v7, eT, eρ⟩ => ?_) ?_)
    · subst eT eρ
      rw [List.getElem?_map] at hd
      cases z : bs[i]? with
      | none => rw [z] at hd; cases hd
      | some b =>
        rw [z] at hd
        cases (Option.some.inj hd)
        have q1 := (h1.all b (List.mem_of_getElem? z)).1
        refine ⟨_, _, evg_tup rfl (evgs_cons (evg_n 5 sc_turnd.nd) (evgs_cons (evg_n 6 sc_turnd.nd) (evgs_cons (evg_n 7 sc_turnd.nd) evgs_nil))), ?_⟩
        refine ru_one (ru_if (k := true) (evT_is (evT_gt (ev_n 7) ev_int) (decide_eq_true q1)) (fun _ => ru_one (ru_app (ev_n 3) tset_same (ev_tup (eva_cons (ev_n 5) (eva_cons (ev_n 6) (eva_cons (ev_n 7) eva_nil)))) (by rw [List.length_map, List.length_take]; omega) ⟨_, _, _, ?_, rfl⟩)) nofun)
        rw [tset_tset, List.take_add_one, z, List.map_append]; rfl
    · rintro ρ T ⟨v5, v6, v7, eT, eρ⟩
      subst eT eρ
      rw [List.length_map, List.take_length]
      refine ru_freeze 3 rfl tset_same ?_
      rw [tdel_tset hq]
      exact ru_one (ru_ret (ev_tup (eva_cons (ev_n 2) (eva_cons (ev_n 3) eva_nil))) ⟨rfl, rfl⟩)

abbrev kts : List Str := ["scale", "period", "names", "kind", "work", "whole", "at", "place"]
theorem sc_tusp : FnScope kts ["scale", "period"] (defScope (top 56)) := ⟨rfl, rfl, rfl, by decide +kernel, rfl, by decide +kernel, by decide +kernel⟩
theorem w_tusp {k : Nat} {CW CS : Addr} (to : TabOnly TB) (a : At K mg "turn_spread" (top 56) ["scale", "period"]) (wc : WkC K CW) (fr : Fr mg) (F1 : Df P w K mg base TB (k + 1) "names_in_scale" (sNmIn R)) (F2 : Df P w K mg base TB (k + 1) "turned_scale" (sTurned R))
    (F3 : Dj P w K mg base TB k "Work" CW (sWk R)) (F4 : Dm P w K mg base TB (k + 1) CW "can" (sCan R CW)) (F5 : Dj P w K mg base TB k "Spread" CS (sSp R)) : Df P w K mg base TB (k + 2) "turn_spread" (sTuSp R CS) :=
  mk_df to a sc_tusp (by rintro ds d ⟨bs, p, ns, l, rows, row, s, out, first, rfl, _⟩; rfl) fun f cdv A outer s H E ds d hr ⟨bs, p, ns, l, rows, row, st, out, first, e1, tu, e2⟩ => by
    subst e1
    have wk := tu.wk
    have gfew := wk.gfew
    have nfew := wk.nfew
    refine ru_cons (ru_asg (ev_tup (eva_cons (ev_call F1 (Le.refl _) hr (eva_cons (ev_n 0) eva_nil) ⟨bs, ns, rfl, wk.ok, tu.nm, rfl⟩) (eva_cons (ev_ixT (ev_n 0) ev_int (d := .str (Kd.kind R)) rfl) eva_nil))) (evg_tup rfl (evgs_cons (evg_n 2 sc_tusp.nd) (evgs_cons (evg_n 3 sc_tusp.nd) evgs_nil))) ?_)
    refine ru_cons (ru_set 4 sc_tusp.nd (ev_make F3 (Le.refl _) hr (eva_cons (ev_call F2 (Le.refl _) hr (eva_cons (ev_n 0) (eva_cons (ev_n 1) eva_nil)) ⟨bs, p, rfl, wk.ok, tu.per, rfl⟩) (eva_cons (ev_n 2) eva_nil)) ⟨bs, ns, l, rows, row, st, rfl, wk, rfl, rfl⟩) ?_)
    cases st with
    | some i =>
      rw [if_neg (by simp)] at e2
      subst e2
      exact ru_cons (ru_if (k := true) (evT_is (evT_not (k := false) (evT_val (ev_meth0 (pl := _) F4 (Le.refl _) hr wc.cl (ev_n 4) ⟨_, l, rows, row, some i, rfl, rfl⟩ (by decide +kernel)))) rfl) (fun _ => ru_one (ru_ret ev_non ⟨rfl, rfl⟩)) nofun)
    | none =>
      rw [if_pos rfl] at e2
      subst e2
      refine ru_cons (ru_if (k := false) (evT_is (evT_not (k := true) (evT_val (ev_meth0 (pl := _) F4 (Le.refl _) hr wc.cl (ev_n 4) ⟨_, l, rows, row, none, rfl, rfl⟩ (by decide +kernel)))) rfl) nofun fun _ => ru_nil ?_)
      have sp := tu.sp rfl
      refine ru_cons (ru_setLc 5 (lcH_det (List.range ns.length) (fun i => .int (i : Nat)) (fun _ => true) (fun i => rD R ((List.range ns.length).map fun j => if i = j then p else 0)) [("at", 6)] _ [6] rfl sc_tusp.nd (evi_rangeN fr.range (ev_is (ev_len fr.len (ev_n 2) (.fz _)) (by rw [List.length_map])) (by omega)) rfl (by rw [List.length_range]; omega) (by simp) (fun x m s H C cl fp => evg_n 6 sc_tusp.nd) (fun x m s H C cl fp => evts_nil) (fun i m _ s H C cl fp => ev_is (ev_lcA (List.range ns.length) (fun i => .int (i : Nat)) (fun j => nI R (if i = j then p else 0)) [("place", 7)] _ [7] rfl sc_tusp.nd (evi_rangeN fr.range (ev_is (ev_len fr.len (ev_n 2) (.fz _)) (by rw [List.length_map])) (by omega)) rfl (by rw [List.length_range]; omega) (by simp) (fun x m s H C cl fp => evg_n 7 sc_tusp.nd) (fun j m s H C cl fp => ev_if (k := decide (i = j)) (evT_is (evT_eq (ev_n 6) (ev_n 7)) (dec_nat _ _)) (fun h => ?_) (fun h => ?_))) ?_) ?_))
      · rw [if_pos (of_decide_eq_true h)]; exact ev_n 1
      · rw [if_neg (of_decide_eq_false h)]
        show Ev _ _ _ _ (.int (Kd.num (0 : R)))
        rw [Kd.num0]; exact ev_int
      · unfold rD; rw [List.map_map]; rfl
      · rw [List.filter_eq_self.mpr (fun _ _ => rfl)]
        refine ru_one (ru_ret (ev_make F5 (Le.refl _) hr (eva_cons (ev_n 3) (eva_cons (ev_n 2) (eva_cons (ev_fld (ev_n 4) (.fz _) wc.cl wc.numbers rfl) (eva_cons (d := rsD R ((rows.map fun r => r.drop bs.length) ++ wholeR p ns.length)) (ev_is (ev_cat (ev_fld (ev_n 4) (.fz _) wc.cl wc.still rfl) (ev_n 5) ?_) ?_) eva_nil)))) ⟨ns, _, _, out, first, rfl, sp, rfl, rfl⟩) ⟨rfl, rfl⟩)
        · rw [List.length_map, List.length_map, List.length_map, List.length_range]; omega
        · unfold rsD wholeR
          rw [List.map_append, List.map_map (f := fun i => (List.range ns.length).map fun j => if i = j then p else 0) (g := rD R)]; rfl
theorem sc_many : FnScope ["scale", "period", "spread"] ["scale", "period"] (defScope (top 58)) := ⟨rfl, rfl, rfl, by decide +kernel, rfl, by decide +kernel, by decide +kernel⟩
theorem w_many {k : Nat} {C : Addr} (to : TabOnly TB) (a : At K mg "many_turns" (top 58) ["scale", "period"]) (F1 : Df P w K mg base TB k "turn_spread" (sTuSp R C)) (F2 : Df P w K mg base TB k "product_of" sProd) (F3 : Df P w K mg base TB k "choices_by" (sChos R C)) : Df P w K mg base TB (k + 1) "many_turns" (sMany R) :=
  mk_df to a sc_many (by rintro ds d ⟨bs, p, ns, l, rows, row, s, out, first, rfl, _⟩; rfl) fun f cdv A outer s H E ds d hr ⟨bs, p, ns, l, rows, row, st, out, first, e1, tu, hc, e2⟩ => by
    subst e1 e2
    refine ru_cons (ru_set 2 sc_many.nd (ev_call F1 (Le.refl _) hr (eva_cons (ev_n 0) (eva_cons (ev_n 1) eva_nil)) ⟨bs, p, ns, l, rows, row, st, out, first, rfl, tu, rfl⟩) ?_)
    cases st with
    | some i =>
      rw [if_neg (by simp), if_neg (by simp)]
      exact ru_one (ru_ret (ev_if (k := true) (evT_is (evT_isN (ev_n 2)) rfl) (fun _ => ev_int) nofun) ⟨rfl, rfl⟩)
    | none =>
      rw [if_pos rfl, if_pos rfl]
      obtain ⟨h1, h2⟩ := hc rfl
      have sp := (tu.sp rfl).asc
      exact ru_one (ru_ret (ev_if (k := false) (evT_is (evT_isN (ev_n 2)) rfl) nofun (fun _ => ev_call F2 (Le.refl _) hr (eva_cons (ev_call F3 (Le.refl _) hr (eva_cons (ev_n 2) (eva_cons (ev_n 1) eva_nil)) ⟨ns, out, first, p, rfl, sp.1, sp.2, h1, rfl⟩) eva_nil) ⟨chos p out, rfl, by unfold chos; rw [List.length_map]; omega, h2, rfl⟩)) ⟨rfl, rfl⟩)
theorem sc_howm : FnScope ["scale", "period"] ["scale", "period"] (defScope (top 59)) := ⟨rfl, rfl, rfl, by decide +kernel, rfl, by decide +kernel, by decide +kernel⟩
theorem w_howm {k : Nat} (to : TabOnly TB) (a : At K mg "how_many_turns" (top 59) ["scale", "period"]) (F1 : Df P w K mg base TB k "check_turn" (sChkT R)) (F2 : Df P w K mg base TB k "many_turns" (sMany R)) : Df P w K mg base TB (k + 1) "how_many_turns" (sMany R) :=
  mk_df to a sc_howm (by rintro ds d ⟨bs, p, ns, l, rows, row, s, out, first, rfl, _⟩; rfl) fun f cdv A outer s H E ds d hr ⟨bs, p, ns, l, rows, row, st, out, first, e1, tu, hc, e2⟩ => by
    subst e1 e2
    refine ru_cons (ru_expr (ev_call F1 (Le.refl _) hr (eva_cons (ev_n 0) (eva_cons (ev_n 1) eva_nil)) ⟨bs, p, rfl, tu.wk.ok, tu.per, rfl⟩) ?_)
    exact ru_one (ru_ret (ev_call F2 (Le.refl _) hr (eva_cons (ev_n 0) (eva_cons (ev_n 1) eva_nil)) ⟨bs, p, ns, l, rows, row, st, out, first, rfl, tu, hc, rfl⟩) ⟨rfl, rfl⟩)
end
end PU
set_option Elab.async false
set_option linter.all false
set_option maxRecDepth 100000
set_option maxHeartbeats 4000000
/-! W13: how the law draws. -/
namespace PU
open PySem PySem.Spec PyProof.Rows L2 LamX
section
variable {X : Cx} {ρ : Rho} {T : Th} {R : Rs} {ss : List Stmt}
/-- a purse is closed as the block ends -/
theorem ru_close (h : Ru X ss ρ T { nx := fun _ _ => False, rt := fun d T' => ∃ (pa : Addr) (n : Nat) (u v c l : Int), T' pa = some (.lst [.int u, .int v, .int c, .int l]) ∧ (0 ≤ u ∧ u < 2 ^ 2000 ∧ 0 ≤ v ∧ v < 2147483629 ∧ 0 ≤ c ∧ c ≤ n ∧ 0 ≤ l ∧ l < 100) ∧ R.rt d (tset T' pa (.prs n)) }) : Ru X ss ρ T R :=
  PSs_imp h fun D σ H ⟨Hf, Hr, w, en, q⟩ => ⟨Hf, Hr, w, en, fun _ _ _ _ _ z => z.elim, fun d T' v H' Hf' ⟨pa, n, u, v', c, l, hp, hh, hR⟩ e w' i => q.2.1 d _ v H' Hf' hR e (w'.close hp hh) i, fun _ _ _ _ _ z => z.elim, fun _ _ _ _ _ z => z.elim⟩
end
def mixF (seed spin at_ : Int) : Int :=
  let m := seed * 69069 + 104729 * spin * spin
  let m2 := (m + 7919 * at_ + spin) % 2147483647
  let m3 := (m2 * m2 + 40503) % 2147483629
  (m3 * 48271) % 2147483587
theorem mixF_nn (a b c : Int) : 0 ≤ mixF a b c ∧ mixF a b c < 2147483587 := ⟨Int.emod_nonneg _ (by decide), Int.emod_lt_of_pos _ (by decide)⟩
def sMix (ds : List D) (d : D) : Prop := ∃ a b c : Int, ds = [.int a, .int b, .int c] ∧ 0 ≤ a ∧ a < 2147483629 ∧ 0 ≤ b ∧ b < 2 ^ 40 ∧ 0 ≤ c ∧ c < 100 ∧ d = .int (mixF a b c)
theorem bits_lt {i : Int} {k : Nat} (h0 : 0 ≤ i) (h : i < 2 ^ k) : Builtin.Int.intBits i ≤ k := by
  have e : i = ((i.toNat : Nat) : Int) := by omega
  rw [e, show Builtin.Int.intBits ((i.toNat : Nat) : Int) = bl i.toNat from bits_nat _]
  refine bl_le ?_
  have : ((i.toNat : Nat) : Int) < ((2 ^ k : Nat) : Int) := by rw [← e]; simpa using h
  omega
theorem cmul_lt {i j : Int} {a b : Nat} (h1 : 0 ≤ i) (h2 : i < 2 ^ a) (h3 : 0 ≤ j) (h4 : j < 2 ^ b) (h : a + b ≤ 134217728) : CMulX i j := by
  unfold CMulX
  have := bits_lt h1 h2
  have := bits_lt h3 h4
  omega
section
variable {P : Program} {w : World} {K : Fg} {mg : Str → Option Value} {base : Heap} {TB : Th}
abbrev kmx : List Str := ["seed", "spin", "at", "mixed"]
theorem sc_mix : FnScope kmx ["seed", "spin", "at"] (defScope (top 62)) := ⟨rfl, rfl, rfl, by decide +kernel, rfl, by decide +kernel, by decide +kernel⟩
theorem w_mix {k : Nat} (to : TabOnly TB) (a : At K mg "_law_mixed" (top 62) ["seed", "spin", "at"]) (fr : Fr mg) : Df P w K mg base TB (k + 1) "_law_mixed" sMix :=
  mk_df to a sc_mix (by rintro ds d ⟨x, y, z, rfl, _⟩; rfl) fun f cdv A outer s H E ds d hr ⟨x, y, z, e1, x0, x1, y0, y1, z0, z1, e2⟩ => by
    subst e1 e2
    have m0 : 0 ≤ (x * 69069 + 104729 * y * y + 7919 * z + y) % 2147483647 := Int.emod_nonneg _ (by decide)
    have m1 : (x * 69069 + 104729 * y * y + 7919 * z + y) % 2147483647 < 2147483647 := Int.emod_lt_of_pos _ (by decide)
    have n0 := Int.emod_nonneg ((x * 69069 + 104729 * y * y + 7919 * z + y) % 2147483647 * ((x * 69069 + 104729 * y * y + 7919 * z + y) % 2147483647) + 40503) (show (2147483629 : Int) ≠ 0 by decide)
    have n1 := Int.emod_lt_of_pos ((x * 69069 + 104729 * y * y + 7919 * z + y) % 2147483647 * ((x * 69069 + 104729 * y * y + 7919 * z + y) % 2147483647) + 40503) (show (0 : Int) < 2147483629 by decide)
    refine ru_cons (ru_set 3 sc_mix.nd (ev_add (ev_mul (ev_n 0) ev_int (cmul_lt (a := 31) (b := 17) x0 (by omega) (by decide) (by decide) (by decide))) (ev_mul (ev_mul ev_int (ev_n 1) (cmul_lt (a := 17) (b := 40) (by decide) (by decide) y0 y1 (by decide))) (ev_n 1) (cmul_lt (a := 60) (b := 40) (by omega) (by omega) y0 y1 (by decide)))) ?_)
    refine ru_cons (ru_set 3 sc_mix.nd (ev_mod (ev_intI fr.int (ev_add (ev_add (ev_n 3) (ev_mul ev_int (ev_n 2) (cmul_lt (a := 13) (b := 7) (by decide) (by decide) z0 (by omega) (by decide)))) (ev_n 1))) ev_int (by decide)) ?_)
    refine ru_cons (ru_set 3 sc_mix.nd (ev_mod (ev_intI fr.int (ev_add (ev_mul (ev_n 3) (ev_n 3) (cmul_lt (a := 31) (b := 31) m0 (by omega) m0 (by omega) (by decide))) ev_int)) ev_int (by decide)) ?_)
    exact ru_one (ru_ret (ev_mod (ev_intI fr.int (ev_mul (ev_n 3) ev_int (cmul_lt (a := 31) (b := 16) n0 (by omega) (by decide) (by decide) (by decide)))) ev_int (by decide)) ⟨rfl, rfl⟩)

/-- a purse has become another -/
abbrev prT (TB : Th) (pa : Addr) (n : Nat) : Th := tset TB pa (.prs n)
def sDraw (TB : Th) (ds : List D) (T : Th) (Post : D → Th → Prop) : Prop := ∃ (pa : Addr) (n : Nat) (m : Int), ds = [.ptr pa, .int m] ∧ TB pa = none ∧ T = prT TB pa n ∧ 0 < m ∧ m < 2 ^ 1000 ∧ n ≤ 1000000000 ∧ Post = fun d T' => ∃ r : Int, d = .int r ∧ 0 ≤ r ∧ r < m ∧ T' = prT TB pa (n + 50)
abbrev kdr : List Str := ["purse", "many", "drawn", "found", "piece"]
theorem sc_draw : FnScope kdr ["purse", "many"] (defScope (top 63)) := ⟨rfl, rfl, rfl, by decide +kernel, rfl, by decide +kernel, by decide +kernel⟩
theorem w_draw {k : Nat} (to : TabOnly TB) (a : At K mg "_law_draw" (top 63) ["purse", "many"]) (fr : Fr mg) (F : Df P w K mg base TB k "_law_mixed" sMix) : Dn P w K mg base (k + 1) "_law_draw" (sDraw TB) :=
  mk_dn a sc_draw (by rintro ds T Post ⟨pa, n, m, rfl, _⟩; rfl) fun f cdv A outer s H E ds T Post hr ⟨pa, n, m, e1, hp, e2, m0, m1, hn, e3⟩ => by
    subst e1 e2 e3
    refine ru_open tset_same fun u v c l hh => ru_close ?_
    rw [tset_tset]
    obtain ⟨u0, u1, v0, v1, c0, c1, l0, l1⟩ := hh
    have bm : Builtin.Int.intBits m ≤ 1000 := bits_lt (Int.le_of_lt m0) m1
    have le : ∀ c, Le TB (tset TB pa c) := fun c => (Le.refl TB).tset hp
    refine ru_cons (ru_if (k := decide (0 < u)) (evT_gt (ev_ixO (ev_n 0) (.own tset_same) ev_int rfl) ev_int) (fun hk => ?_) (fun hk => ru_nil ?_))
    · refine ru_cons (ru_set 2 sc_draw.nd (ev_mod (ev_intI fr.int (ev_ixO (ev_n 0) (.own tset_same) ev_int rfl)) (ev_n 1) m0) ?_)
      refine ru_cons (ru_setL (j := 0) (ev_n 0) tset_same ev_int (ev_fdiv (ev_ixO (ev_n 0) (.own tset_same) ev_int rfl) (ev_n 1) (cdiv_of m0 (by show Builtin.Int.intBits m ≤ 9000; omega))) rfl ?_)
      have q0 : 0 ≤ u / m := Int.ediv_nonneg u0 (Int.le_of_lt m0)
      have q1 : u / m ≤ u := Int.ediv_le_self _ u0
      exact ru_one (ru_ret (ev_n 2) ⟨pa, n + 50, u / m, v, c, l, tset_same, ⟨q0, by omega, v0, v1, c0, by omega, l0, l1⟩, u % m, rfl, Int.emod_nonneg _ (by omega), Int.emod_lt_of_pos _ m0, by rw [tset_tset, tset_tset]⟩)
    · refine ru_cons (ru_set 3 sc_draw.nd ev_int ?_)
      have kb : (1 + ((Builtin.Int.intBits m : Nat) : Int) / 28).toNat ≤ 40 := by omega
      refine ru_cons (ru_for (fun i ρ T => ∃ (z : Int) (pv : Option D), T = tset TB pa (.lst [.int u, .int v, .int (c + (i : Nat)), .int l]) ∧ ρ = [some (.ptr pa), some (.int m), none, some (.int z), pv] ∧ 0 ≤ z ∧ z < 2 ^ (40 * (i + 1))) ⟨0, none, by simp, rfl, Int.le_refl _, by decide⟩ PassesOwn.never rfl (evi_range1 fr.range (ev_add ev_int (ev_fdiv (ev_bits (ev_n 1)) ev_int (cdiv_of (by decide) (by decide)))) (by omega) (by omega)) (fun i d ρ T hd ⟨z, pv, eT, eρ, z0, z1⟩ => ?_) ?_)
      · subst eT eρ
        have hi : i < 40 := by
          have := (List.getElem?_eq_some_iff.mp hd).1
          rw [List.length_map, List.length_range] at this
          omega
        have ed : ∃ x, d = .int x := by
          rw [List.getElem?_map] at hd
          obtain ⟨x, _, e⟩ := Option.map_eq_some_iff.mp hd
          exact ⟨_, e.symm⟩
        obtain ⟨x, rfl⟩ := ed
        refine ⟨_, _, evg_n 4 sc_draw.nd, ?_⟩
        refine ru_cons (ru_setL (j := 2) (ev_n 0) tset_same ev_int (ev_add (ev_ixO (ev_n 0) (.own tset_same) ev_int rfl) ev_int) rfl ?_)
        rw [tset_tset]
        have mm := mixF_nn v (c + (i : Nat) + 1) l
        refine ru_one (ru_set 3 sc_draw.nd (ev_add (ev_mul (ev_n 3) ev_int (cmul_lt (a := 40 * (i + 1)) (b := 31) z0 z1 (by decide) (by decide) (by omega))) (ev_call F (le _) hr (eva_cons (ev_ixO (ev_n 0) (.own tset_same) ev_int rfl) (eva_cons (ev_ixO (ev_n 0) (.own tset_same) ev_int rfl) (eva_cons (ev_ixO (ev_n 0) (.own tset_same) ev_int rfl) eva_nil))) ⟨v, c + (i : Nat) + 1, l, rfl, v0, v1, by omega, by omega, l0, l1, rfl⟩)) ⟨_, some (.int x), ?_, rfl, by omega, ?_⟩)
        · show tset TB pa (.lst [.int u, .int v, .int (c + (i : Nat) + 1), .int l]) = _
          rw [show c + ((i + 1 : Nat) : Int) = c + (i : Nat) + 1 by omega]
        · have e : (2 : Int) ^ (40 * (i + 1 + 1)) = 2 ^ (40 * (i + 1)) * 2 ^ 40 := by rw [← Int.pow_add]; rfl
          rw [e]
          generalize (2 : Int) ^ (40 * (i + 1)) = q at z1
          omega
      · rintro ρ T ⟨z, pv, eT, eρ, z0, z1⟩
        subst eT eρ
        rw [List.length_map, List.length_range]
        exact ru_one (ru_ret (ev_mod (ev_intI fr.int (ev_n 3)) (ev_n 1) m0) ⟨pa, n + 50, u, v, _, l, tset_same, ⟨u0, u1, v0, v1, by omega, by omega, l0, l1⟩, z % m, rfl, Int.emod_nonneg _ (by omega), Int.emod_lt_of_pos _ m0, by rw [tset_tset]⟩)
end
end PU
set_option Elab.async false
set_option linter.all false
set_option maxRecDepth 100000
set_option maxHeartbeats 4000000
/-! W14: what the law draws and reckons. -/
namespace PU
open PySem PySem.Spec PyProof.Rows L2 LamX
theorem noObj_pr {TB : Th} (to : TabOnly TB) (pa : Addr) (n : Nat) : NoObj (prT TB pa n) := fun a C fs ds e => by
  unfold prT PU.tset at e
  split at e
  · cases e
  · obtain ⟨q, z⟩ := to _ _ e; cases z
theorem dom_pr {TB : Th} (pa : Addr) (c d : D) (a : Addr) : tset TB pa c a = none ↔ tset TB pa d a = none := by
  unfold PU.tset
  by_cases h : a = pa
  · rw [if_pos h, if_pos h]; exact ⟨(fun z => nomatch z), (fun z => nomatch z)⟩
  · rw [if_neg h, if_neg h]
theorem le_pr {TB T : Th} {pa : Addr} {n : Nat} (le : Le TB T) (h : T pa = some (.prs n)) : Le (prT TB pa n) T := fun a c e => by
  unfold prT PU.tset at e
  split at e
  · rename_i z; rw [z]; cases e; exact h
  · exact le a c e
theorem le_set {TB T : Th} {pa : Addr} {c : D} (le : Le TB T) (h : TB pa = none) : Le TB (tset T pa c) := fun a d e => by
  unfold PU.tset
  split
  · rename_i z; rw [z, h] at e; cases e
  · exact le a d e
section
variable {X : Cx} {e1 e2 : Expr} {ρ : Rho} {T TB : Th} {pos p : Pos} {k : Nat} {Post : D → Th → Prop}
/-- a draw -/
theorem evn_draw {pa : Addr} {n : Nat} {m : Int} (to : TabOnly TB) (F : Dn X.prog X.w X.K X.mg X.base k "_law_draw" (sDraw TB)) (le : Le TB T) (hp : TB pa = none) (hT : T pa = some (.prs n)) (hr : Room k X.A) (ha : EvA X [e1, e2] ρ T [.ptr pa, .int m]) (m0 : 0 < m) (m1 : m < 2 ^ 1000) (hn : n ≤ 1000000000)
    (h : ∀ r : Int, 0 ≤ r → r < m → Post (.int r) (tset T pa (.prs (n + 50)))) (hg : Gl X "_law_draw" := by rfl) (he : starEach [e1, e2] X.env = (false, eval e1 X.env) :: starEach [e2] X.env := by rfl) (hpl : (backTo pos (starEach [e2] X.env)).any (·.1) = false := by rfl) : EvN X (.Call (.Name "_law_draw" p) [e1, e2] [] pos) ρ T Post :=
  evn_call F hr (evna_of ha ⟨prT TB pa n, _, ⟨pa, n, m, rfl, hp, rfl, m0, m1, hn, rfl⟩, noObj_pr to pa n, fun d T' ⟨r, _, _, _, e⟩ => by subst e; exact ⟨noObj_pr to pa _, fun a => dom_pr pa _ _ a⟩, le_pr le hT, fun d T' ⟨r, e1, r0, r1, e2⟩ => by
    subst e1 e2
    rw [over_tset le]
    exact h r r0 r1⟩) hg (by decide) he hpl
end
def sOne (TB : Th) (ds : List D) (T : Th) (Post : D → Th → Prop) : Prop := ∃ (pa : Addr) (n : Nat) (xs : List D), ds = [.ptr pa, .lst xs] ∧ TB pa = none ∧ T = prT TB pa n ∧ 0 < xs.length ∧ xs.length ≤ 1000 ∧ n ≤ 1000000000 ∧ Post = fun d T' => d ∈ xs ∧ T' = prT TB pa (n + 50)
def sNumb (R : Type) [Kd R] (TB : Th) (ds : List D) (T : Th) (Post : D → Th → Prop) : Prop := ∃ (pa : Addr) (n : Nat) (m : Int), ds = [.ptr pa, .str (Kd.kind R), .int m] ∧ TB pa = none ∧ T = prT TB pa n ∧ 0 < m ∧ m < 2 ^ 900 ∧ n ≤ 1000000000 ∧ Post = fun d T' => ∃ x : R, d = nI R x ∧ -m ≤ Kd.num x ∧ Kd.num x ≤ m ∧ T' = prT TB pa (n + 50)
section
variable {P : Program} {w : World} {K : Fg} {mg : Str → Option Value} {base : Heap} {TB : Th} {R : Type} [Kd R]
theorem sc_one : FnScope ["purse", "some"] ["purse", "some"] (defScope (top 65)) := ⟨rfl, rfl, rfl, by decide +kernel, rfl, by decide +kernel, by decide +kernel⟩
theorem w_one {k : Nat} (to : TabOnly TB) (a : At K mg "_law_one_of" (top 65) ["purse", "some"]) (fr : Fr mg) (F : Dn P w K mg base k "_law_draw" (sDraw TB)) : Dn P w K mg base (k + 1) "_law_one_of" (sOne TB) :=
  mk_dn a sc_one (by rintro ds T Post ⟨pa, n, xs, rfl, _⟩; rfl) fun f cdv A outer s H E ds T Post hr ⟨pa, n, xs, e1, hp, e2, x0, x1, hn, e3⟩ => by
    subst e1 e2 e3
    have big : ((xs.length : Nat) : Int) < 2 ^ 1000 := Int.lt_of_le_of_lt (show ((xs.length : Nat) : Int) ≤ 1000 by omega) (by decide)
    refine ru_one (ru_retN' (evn_ix (evn_of (ev_n 1) (evn_draw to F ((Le.refl TB).tset hp) hp tset_same hr (eva_cons (ev_n 0) (eva_cons (ev_len fr.len (ev_n 1) (.fz _)) eva_nil)) (by omega) big hn fun r r0 r1 => ?_))))
    have hi : r.toNat < xs.length := by omega
    refine ⟨xs, r, xs[r.toNat], rfl, rfl, ?_, List.getElem_mem hi, by rw [tset_tset]⟩
    have ea : atI xs ((r.toNat : Nat) : Int) = some xs[r.toNat] := atI_nat (List.getElem?_eq_getElem hi)
    rwa [Int.toNat_of_nonneg r0] at ea
abbrev kpk : List Str := ["purse", "kind", "most"]
theorem sc_numb : FnScope kpk kpk (defScope (top 72)) := ⟨rfl, rfl, rfl, by decide +kernel, rfl, by decide +kernel, by decide +kernel⟩
theorem w_numbI {k : Nat} (to : TabOnly TB) (a : At K mg "_law_number" (top 72) kpk) (F : Dn P w K mg base k "_law_draw" (sDraw TB)) : Dn P w K mg base (k + 1) "_law_number" (sNumb Int TB) :=
  mk_dn a sc_numb (by rintro ds T Post ⟨pa, n, xs, rfl, _⟩; rfl) fun f cdv A outer s H E ds T Post hr ⟨pa, n, m, e1, hp, e2, m0, m1, hn, e3⟩ => by
    subst e1 e2 e3
    have e901 : (2 : Int) ^ 1000 = 2 ^ 900 * 2 ^ 100 := by rw [← Int.pow_add]
    refine ru_one (ru_retN' (evn_if (k := true) (evT_is (evT_eqS (ev_n 1) ev_str) hI) (fun _ => evn_op op_sub (evn_draw to F ((Le.refl TB).tset hp) hp tset_same hr (eva_cons (ev_n 0) (eva_cons (ev_add (ev_mul ev_int (ev_n 2) (cmul_lt (a := 2) (b := 900) (by decide) (by decide) (Int.le_of_lt m0) m1 (by decide))) ev_int) eva_nil)) (by omega) (by rw [e901]; generalize (2 : Int) ^ 900 = q at m1; omega) hn fun r r0 r1 => evn_of (ev_n 2) ⟨_, r2_I0 fun _ => is_int.mpr rfl, r - m, rfl, ?_, ?_, by rw [tset_tset]⟩)) nofun))
    · show -m ≤ r - m; omega
    · show r - m ≤ m; omega
theorem w_numbP {k : Nat} (to : TabOnly TB) (a : At K mg "_law_number" (top 72) kpk) (F : Dn P w K mg base k "_law_draw" (sDraw TB)) : Dn P w K mg base (k + 1) "_law_number" (sNumb Pol TB) :=
  mk_dn a sc_numb (by rintro ds T Post ⟨pa, n, xs, rfl, _⟩; rfl) fun f cdv A outer s H E ds T Post hr ⟨pa, n, m, e1, hp, e2, m0, m1, hn, e3⟩ => by
    subst e1 e2 e3
    refine ru_one (ru_retN' (evn_if (k := false) (evT_is (evT_eqS (ev_n 1) ev_str) hP) nofun (fun _ => evn_draw to F ((Le.refl TB).tset hp) hp tset_same hr (eva_cons (ev_n 0) (eva_cons (ev_n 2) eva_nil)) m0 (Int.lt_trans m1 (by decide)) hn fun r r0 r1 => ⟨(⟨r.toNat⟩ : Pol), ?_, ?_, ?_, by rw [tset_tset]⟩)))
    · show D.int r = .int ((r.toNat : Nat) : Int)
      rw [Int.toNat_of_nonneg r0]
    · show -m ≤ ((r.toNat : Nat) : Int); omega
    · show ((r.toNat : Nat) : Int) ≤ m; omega
/-! ### rests once more -/
def sLDiv (R : Type) [Kd R] (ds : List D) (d : D) : Prop := ∃ x y : R, ds = [.str (Kd.kind R), nI R x, nI R y] ∧ bitsOf (Kd.num x) ≤ 2 ^ 25 ∧ 0 < Kd.num y ∧ bitsOf (Kd.num y) ≤ 9000 ∧ d = .lst [nI R (Kd.quo x y), nI R (Kd.rem x y)]
abbrev kld : List Str := ["kind", "number", "by", "often", "size", "place"]
theorem sc_ldiv : FnScope kld kno (defScope (top 69)) := ⟨rfl, rfl, rfl, by decide +kernel, rfl, by decide +kernel, by decide +kernel⟩
theorem w_ldivI {k : Nat} (to : TabOnly TB) (a : At K mg "_law_divided" (top 69) kno) (fr : Fr mg) : Df P w K mg base TB (k + 1) "_law_divided" (sLDiv Int) :=
  mk_df to a sc_ldiv (by rintro ds d ⟨x, y, rfl, _⟩; rfl) fun f cdv A outer s H E ds d hr ⟨x, y, e1, h1, h2, h3, e2⟩ => by
    subst e1 e2
    exact ru_cons (ru_if (k := true) (evT_is (evT_eqS (ev_n 0) ev_str) hI) (fun _ => ru_one (ru_ret (ev_lst (eva_cons (ev_fdiv (ev_intI fr.int (ev_n 1)) (ev_n 2) (cdiv_of h2 h3)) (eva_cons (ev_mod (ev_intI fr.int (ev_n 1)) (ev_n 2) h2) eva_nil))) ⟨rfl, rfl⟩)) nofun)
theorem w_ldivP {k : Nat} (to : TabOnly TB) (a : At K mg "_law_divided" (top 69) kno) (fr : Fr mg) : Df P w K mg base TB (k + 1) "_law_divided" (sLDiv Pol) :=
  mk_df to a sc_ldiv (by rintro ds d ⟨x, y, rfl, _⟩; rfl) fun f cdv A outer s H E ds d hr ⟨x, y, e1, h1, h2, h3, e2⟩ => by
    subst e1 e2
    have b1 : bl x.val ≤ 2 ^ 25 := by rw [← bits_nat]; exact h1
    have hy : 0 < y.val := by have : 0 < (y.val : Int) := h2; omega
    have hyb := bl_pos hy
    have bn : ∀ n : Nat, Builtin.Int.intBits ((n : Nat) : Int) = bl n := bits_nat
    refine ru_cons (ru_if (k := false) (evT_is (evT_eqS (ev_n 0) ev_str) hP) nofun fun _ => ru_nil ?_)
    refine ru_cons (ru_par rfl sc_ldiv.nd (i := 3) (j := 4) (by decide) (eva_cons ev_int (eva_cons (d := .int (bl y.val : Nat)) (ev_is (ev_bits (ev_intI fr.int (ev_n 2))) (by rw [show Builtin.Int.intBits (Kd.num y) = bl y.val from bits_nat _])) eva_nil)) ?_)
    refine ru_cons (ru_while (fun m ρ T => T = TB ∧ ∃ (q r : Nat) (v : Option D), ρ = [some (.str (Kd.kind Pol)), some (.int (r : Nat)), some (nI Pol y), some (.int q), some (.int (bl y.val : Nat)), v] ∧ bl r = m ∧ bl r ≤ bl x.val ∧ dvF y.val (bl r) q r = dvF y.val (bl x.val) 0 x.val) (bl x.val) ⟨rfl, 0, x.val, none, rfl, rfl, Nat.le_refl _, rfl⟩ PassesOwn.never ?_)
    rintro m ρ T ⟨rfl, q, r, v, rfl, rfl, hle, hd⟩
    refine ⟨decide (bl y.val ≤ bl r), evT_is (evT_ge (ev_bits (ev_intI fr.int (ev_n 1))) (ev_n 4)) (by rw [bn]; exact bits_ge r y.val), fun hk => ?_, fun hk => ?_⟩
    · have l := of_decide_eq_true hk
      have st := dv_step hy l
      have e1 : dvF y.val (bl r) q r = dvF y.val (bl r - 1) (q ||| 1 <<< (bl r - bl y.val)) (r ^^^ y.val <<< (bl r - bl y.val)) := by
        have key : ∀ n, dvF y.val (n + 1) q r = dvF y.val n (q ||| 1 <<< (bl r - bl y.val)) (r ^^^ y.val <<< (bl r - bl y.val)) := fun n => by
          show (if bl y.val ≤ bl r then _ else _) = _
          rw [if_pos l]
        have := key (bl r - 1)
        rwa [show bl r - 1 + 1 = bl r by omega] at this
      have hsub : ((bl r : Nat) : Int) - (bl y.val : Nat) = ((bl r - bl y.val : Nat) : Int) := by omega
      have cs : ∀ z : Nat, bl z ≤ 2 ^ 25 → CShl ((z : Nat) : Int) ((bl r - bl y.val : Nat) : Int) := fun z hz => ⟨by omega, by rw [bn]; omega⟩
      refine ru_cons (ru_set 5 sc_ldiv.nd (d := .int ((bl r - bl y.val : Nat) : Int)) (ev_is (ev_sub (ev_bits (ev_intI fr.int (ev_n 1))) (ev_n 4)) (by rw [bn, hsub])) ?_)
      refine ru_one (ru_par rfl sc_ldiv.nd (i := 3) (j := 1) (by decide) (eva_cons (ev_or (ev_n 3) (ev_shl ev_int (ev_n 5) (cs 1 (by decide)))) (eva_cons (ev_xor (ev_n 1) (ev_shl (ev_n 2) (ev_n 5) (cs y.val (by omega)))) eva_nil)) ⟨_, ?_, rfl, q ||| 1 <<< (bl r - bl y.val), r ^^^ y.val <<< (bl r - bl y.val), some (.int ((bl r - bl y.val : Nat) : Int)), ?_, rfl, by omega, ?_⟩)
      · exact st
      · show [_, _, _, _, _, _] = _
        rw [show (1 : Int) * (2 : Int) ^ (Int.toNat ((bl r - bl y.val : Nat) : Int)) = ((1 <<< (bl r - bl y.val) : Nat) : Int) from shl_num 1 _]
        rw [show (y.val : Int) * (2 : Int) ^ (Int.toNat ((bl r - bl y.val : Nat) : Int)) = ((y.val <<< (bl r - bl y.val) : Nat) : Int) from shl_num y.val _]
        rw [Bits.bitXor_pp (Int.natCast_nonneg _) (Int.natCast_nonneg _), Bits.bitOr_pp (Int.natCast_nonneg _) (Int.natCast_nonneg _)]
        rfl
      · rw [← hd, e1]
        exact dvF_fuel hy _ _ _ _ (Nat.le_refl _) (by omega)
    · have l := of_decide_eq_false hk
      have e1 : dvF y.val (bl r) q r = (q, r) := by
        cases h : bl r with
        | zero => rfl
        | succ n =>
          show (if bl y.val ≤ bl r then _ else _) = _
          rw [if_neg l]
      rw [e1] at hd
      have eq : Kd.quo x y = (⟨q⟩ : Pol) := Pol.ext (by show (dvF y.val (bl x.val) 0 x.val).1 = q; rw [← hd])
      have er : Kd.rem x y = (⟨r⟩ : Pol) := Pol.ext (by show dvr x.val y.val = r; unfold dvr; rw [if_neg (by omega), ← hd])
      rw [eq, er]
      exact ru_one (ru_ret (ev_lst (eva_cons (ev_n 3) (eva_cons (ev_n 1) eva_nil))) ⟨rfl, rfl⟩)
theorem sc_lrest : FnScope kno kno (defScope (top 70)) := ⟨rfl, rfl, rfl, by decide +kernel, rfl, by decide +kernel, by decide +kernel⟩
theorem w_lrest {k : Nat} (to : TabOnly TB) (a : At K mg "_law_rest" (top 70) kno) (F : Df P w K mg base TB k "_law_divided" (sLDiv R)) : Df P w K mg base TB (k + 1) "_law_rest" (sRem R) :=
  mk_df to a sc_lrest (by rintro ds d ⟨x, y, rfl, _⟩; rfl) fun f cdv A outer s H E ds d hr ⟨x, y, e1, h1, h2, h3, e2⟩ => by
    subst e1 e2
    by_cases hy : Kd.num y = 0
    · have e : y = 0 := Kd.inj (by rw [hy, Kd.num0])
      refine ru_one (ru_ret (ev_if (k := true) (evT_is (evT_eq (ev_n 2) ev_int) (by rw [decide_eq_true hy])) (fun _ => ev_is (ev_n 1) ?_) nofun) ⟨rfl, rfl⟩)
      rw [e, Kd.rem0]
    · have hp : 0 < Kd.num y := by omega
      exact ru_one (ru_ret (ev_if (k := false) (evT_is (evT_eq (ev_n 2) ev_int) (by rw [decide_eq_false hy])) nofun (fun _ => ev_ix (ev_call F (Le.refl _) hr (eva_cons (ev_n 0) (eva_cons (ev_n 1) (eva_cons (ev_n 2) eva_nil))) ⟨x, y, rfl, h1, hp, h3, rfl⟩) ev_int rfl)) ⟨rfl, rfl⟩)
def sSize (R : Type) [Kd R] (ds : List D) (d : D) : Prop := ∃ y : R, ds = [.str (Kd.kind R), nI R y] ∧ 0 < Kd.num y ∧ bitsOf (Kd.num y) ≤ 9000 ∧ d = .int (Kd.size y : Nat)
theorem sc_size : FnScope ["kind", "by"] ["kind", "by"] (defScope (top 74)) := ⟨rfl, rfl, rfl, by decide +kernel, rfl, by decide +kernel, by decide +kernel⟩
theorem w_sizeI {k : Nat} (to : TabOnly TB) (a : At K mg "_law_size" (top 74) ["kind", "by"]) : Df P w K mg base TB (k + 1) "_law_size" (sSize Int) :=
  mk_df to a sc_size (by rintro ds d ⟨y, rfl, _⟩; rfl) fun f cdv A outer s H E ds d hr ⟨y, e1, h1, h2, e2⟩ => by
    subst e1 e2
    refine ru_one (ru_ret (ev_if (k := true) (evT_is (evT_eqS (ev_n 0) ev_str) hI) (fun _ => ev_is (ev_n 1) ?_) nofun) ⟨rfl, rfl⟩)
    have h1' : (0 : Int) < y := h1
    show D.int y = .int ((y.toNat : Nat) : Int)
    rw [Int.toNat_of_nonneg (by omega)]
theorem w_sizeP {k : Nat} (to : TabOnly TB) (a : At K mg "_law_size" (top 74) ["kind", "by"]) (fr : Fr mg) : Df P w K mg base TB (k + 1) "_law_size" (sSize Pol) :=
  mk_df to a sc_size (by rintro ds d ⟨y, rfl, _⟩; rfl) fun f cdv A outer s H E ds d hr ⟨y, e1, h1, h2, e2⟩ => by
    subst e1 e2
    have hy : 0 < y.val := by have : 0 < (y.val : Int) := h1; omega
    have b2 : bl y.val ≤ 9000 := by rw [← bits_nat]; exact h2
    have hb := bl_pos hy
    have eb : ((Builtin.Int.intBits (Kd.num y) : Nat) : Int) - 1 = ((bl y.val - 1 : Nat) : Int) := by
      rw [show Builtin.Int.intBits (Kd.num y) = bl y.val from bits_nat _]; omega
    refine ru_one (ru_ret (ev_if (k := false) (evT_is (evT_eqS (ev_n 0) ev_str) hP) nofun (fun _ => ev_is (ev_shl ev_int (ev_is (ev_sub (ev_bits (ev_intI fr.int (ev_n 1))) ev_int) (congrArg D.int eb)) ⟨by omega, by rw [show Builtin.Int.intBits 1 = 1 from rfl]; omega⟩) ?_)) ⟨rfl, rfl⟩)
    show D.int _ = .int ((2 ^ (bl y.val - 1) : Nat) : Int)
    rw [Int.toNat_natCast]
    simp
end
end PU
set_option Elab.async false
set_option linter.all false
set_option maxRecDepth 100000
set_option maxHeartbeats 4000000
/-! W15: all totals; what is exactly alike. -/
namespace PU
open PySem PySem.Spec PyProof.Rows L2 LamX
def nD (t : List Nat) : D := .lst (t.map fun n : Nat => D.int (n : Nat))
def stepT (rows : List (List Nat)) (s : Nat) : List (List Nat) := rows.flatMap fun row => (List.range s).map fun n => row ++ [n]
def totT (ss : List Nat) : List (List Nat) := ss.foldl stepT [[]]
theorem stepT_len (rows : List (List Nat)) (s : Nat) : (stepT rows s).length = rows.length * s := by
  unfold stepT
  induction rows with
  | nil => simp
  | cons r rows ih => rw [List.flatMap_cons, List.length_append, ih, List.length_map, List.length_range, List.length_cons, Nat.succ_mul]; omega
theorem foldl_len : ∀ (ss : List Nat) (rows : List (List Nat)), (ss.foldl stepT rows).length = rows.length * prodN ss
  | [], rows => by simp [prodN]
  | s :: ss, rows => by
    rw [List.foldl_cons, foldl_len ss, stepT_len]
    show rows.length * s * prodN ss = rows.length * (s * prodN ss)
    rw [Nat.mul_assoc]
theorem totT_len (ss : List Nat) : (totT ss).length = prodN ss := by unfold totT; rw [foldl_len]; simp
theorem totT_succ {ss : List Nat} {i s : Nat} (h : ss[i]? = some s) : totT (ss.take (i + 1)) = stepT (totT (ss.take i)) s := by
  unfold totT
  rw [List.take_add_one, h, List.foldl_append]; rfl
theorem stepT_succ {rows : List (List Nat)} {s j : Nat} {row : List Nat} (h : rows[j]? = some row) : stepT (rows.take (j + 1)) s = stepT (rows.take j) s ++ (List.range s).map fun n => row ++ [n] := by
  unfold stepT
  rw [List.take_add_one, h, List.flatMap_append]
  simp
theorem foldl_row : ∀ (ss : List Nat) (rows : List (List Nat)) (c : Nat), (∀ row ∈ rows, row.length = c) → ∀ row ∈ ss.foldl stepT rows, row.length = c + ss.length
  | [], rows, c, h, row, hr => h row hr
  | s :: ss, rows, c, h, row, hr => by
    have := foldl_row ss (stepT rows s) (c + 1) (fun r m => by
      unfold stepT at m
      obtain ⟨r', m1, m2⟩ := List.mem_flatMap.mp m
      obtain ⟨n, _, rfl⟩ := List.mem_map.mp m2
      rw [List.length_append, h r' m1]; rfl) row hr
    rw [this, List.length_cons]; omega
theorem totT_row (ss : List Nat) (row : List Nat) (h : row ∈ totT ss) : row.length = ss.length := by
  have := foldl_row ss [[]] 0 (fun r m => by simp at m; rw [m]; rfl) row h
  omega
def sTotals (R : Type) [Kd R] (ds : List D) (d : D) : Prop := ∃ bys : List R, ds = [.str (Kd.kind R), .lst (bys.map (nI R))] ∧ (∀ b ∈ bys, 0 < Kd.num b ∧ bitsOf (Kd.num b) ≤ 9000 ∧ Kd.size b ≤ 1000) ∧ (∀ i, prodN ((bys.map Kd.size).take i) ≤ 100000) ∧ bys.length ≤ 10 ∧ d = .lst ((totT (bys.map Kd.size)).map nD)
section
variable {P : Program} {w : World} {K : Fg} {mg : Str → Option Value} {base : Heap} {TB : Th} {R : Type} [Kd R]
abbrev klt : List Str := ["kind", "bys", "rows", "by", "longer", "row", "number"]
theorem sc_totals : FnScope klt ["kind", "bys"] (defScope (top 75)) := ⟨rfl, rfl, rfl, by decide +kernel, rfl, by decide +kernel, by decide +kernel⟩
theorem w_totals {k : Nat} (to : TabOnly TB) (a : At K mg "_law_totals" (top 75) ["kind", "bys"]) (fr : Fr mg) (F : Df P w K mg base TB k "_law_size" (sSize R)) : Df P w K mg base TB (k + 1) "_law_totals" (sTotals R) :=
  mk_df to a sc_totals (by rintro ds d ⟨bys, rfl, _⟩; rfl) fun f cdv A outer s H E ds d hr ⟨bys, e1, h1, h2, h3, e2⟩ => by
    subst e1 e2
    refine ru_cons (ru_set 2 sc_totals.nd (d := .lst ((totT []).map nD)) (ev_lst (eva_cons (ev_lst eva_nil) eva_nil)) ?_)
    refine ru_cons (ru_for (fun i ρ T => T = TB ∧ ∃ v3 v4 v5 : Option D, ρ = [some (.str (Kd.kind R)), some (.lst (bys.map (nI R))), some (.lst ((totT ((bys.map Kd.size).take i)).map nD)), v3, v4, v5, none]) ⟨rfl, none, none, none, rfl⟩ PassesOwn.never rfl (evi_list (ev_n 1)) (fun i d ρ T hd ⟨eT, v3, v4, v5, eρ⟩ => ?_) ?_)
    · subst eT eρ
      rw [List.getElem?_map] at hd
      cases z : bys[i]? with
      | none => rw [z] at hd; cases hd
      | some b =>
        rw [z] at hd
        cases (Option.some.inj hd)
        obtain ⟨b0, b1, b2⟩ := h1 b (List.mem_of_getElem? z)
        have zs : (bys.map Kd.size)[i]? = some (Kd.size b) := by rw [List.getElem?_map, z]; rfl
        have hp := h2 i
        have hp2 := h2 (i + 1)
        have tl : (totT ((bys.map Kd.size).take i)).length ≤ 100000 := by rw [totT_len]; exact hp
        have tl2 : (stepT (totT ((bys.map Kd.size).take i)) (Kd.size b)).length ≤ 100000 := by rw [← totT_succ zs, totT_len]; exact hp2
        refine ⟨_, _, evg_n 3 sc_totals.nd, ?_⟩
        refine ru_cons (ru_set 4 sc_totals.nd (d := .lst []) (ev_lst eva_nil) ?_)
        refine ru_cons (ru_for (fun j ρ T' => T' = T ∧ ∃ v5 : Option D, ρ = [some (.str (Kd.kind R)), some (.lst (bys.map (nI R))), some (.lst ((totT ((bys.map Kd.size).take i)).map nD)), some (nI R b), some (.lst ((stepT ((totT ((bys.map Kd.size).take i)).take j) (Kd.size b)).map nD)), v5, none]) ⟨rfl, v5, rfl⟩ PassesOwn.never rfl (evi_list (ev_n 2)) (fun j d ρ T' hd ⟨eT, v5, eρ⟩ => ?_) ?_)
        · subst eT eρ
          rw [List.getElem?_map] at hd
          cases z2 : (totT ((bys.map Kd.size).take i))[j]? with
          | none => rw [z2] at hd; cases hd
          | some row =>
            rw [z2] at hd
            cases (Option.some.inj hd)
            refine ⟨_, _, evg_n 5 sc_totals.nd, ?_⟩
            have rl : row.length ≤ 10 := by
              have := totT_row _ _ (List.mem_of_getElem? z2)
              rw [this, List.length_take, List.length_map]
              omega
            have hj := (List.getElem?_eq_some_iff.mp z2).1
            have ll : (stepT ((totT ((bys.map Kd.size).take i)).take j) (Kd.size b)).length ≤ 100000 := by
              rw [stepT_len, List.length_take] at *
              exact Nat.le_trans (Nat.mul_le_mul_right _ (Nat.min_le_right _ _)) tl2
            refine ru_one (ru_set 4 sc_totals.nd (d := .lst ((stepT ((totT ((bys.map Kd.size).take i)).take (j + 1)) (Kd.size b)).map nD)) (ev_is (ev_cat (ev_n 4) (ev_lcA (List.range (Kd.size b)) (fun n => .int (n : Nat)) (fun n => nD (row ++ [n])) [("number", 6)] _ [6] rfl sc_totals.nd (evi_rangeN fr.range (ev_call F (Le.refl _) hr (eva_cons (ev_n 0) (eva_cons (ev_n 3) eva_nil)) ⟨b, rfl, b0, b1, rfl⟩) (by omega)) rfl (by rw [List.length_range]; omega) (by simp) (fun x m s H C cl fp => evg_n 6 sc_totals.nd) (fun n m s H C cl fp => ev_is (ev_cat (ev_n 5) (ev_lst (eva_cons (ev_n 6) eva_nil)) ?_) ?_)) ?_) ?_) ⟨rfl, _, rfl⟩)
            · rw [List.length_map]; simp; omega
            · unfold nD; rw [List.map_append]; rfl
            · rw [List.length_map, List.length_map, List.length_range]; omega
            · rw [stepT_succ z2, List.map_append, List.map_map]; rfl
        · rintro ρ T' ⟨eT, v5, eρ⟩
          subst eT eρ
          rw [List.length_map, List.take_length]
          exact ru_one (ru_set 2 sc_totals.nd (ev_n 4) ⟨rfl, some (nI R b), some (.lst ((stepT (totT ((bys.map Kd.size).take i)) (Kd.size b)).map nD)), v5, by rw [totT_succ zs]; rfl⟩)
    · rintro ρ T ⟨eT, v3, v4, v5, eρ⟩
      subst eT eρ
      rw [List.length_map, List.take_of_length_le (by rw [List.length_map]; exact Nat.le_refl _)]
      exact ru_one (ru_ret (ev_n 2) ⟨rfl, rfl⟩)
end
theorem zip_ints (xs ys : List Int) : zipD (xs.map .int) (ys.map .int) = (xs.zip ys).map fun p => .tup [.int p.1, .int p.2] := by
  unfold zipD
  rw [zw, List.zip_map, List.map_map]; rfl
/-! ### alike -/
abbrev kex : List Str := ["mine", "theirs", "is_list", "is_like", "key", "a", "b"]
def sExB (ds : List D) (d : D) : Prop := ∃ x y : Bool, ds = [.bl x, .bl y] ∧ d = .bl (decide (x = y))
def sExI (ds : List D) (d : D) : Prop := ∃ x y : Int, ds = [.int x, .int y] ∧ d = .bl (decide (x = y))
def sExL (ds : List D) (d : D) : Prop := ∃ xs ys : List Int, ds = [.lst (xs.map .int), .lst (ys.map .int)] ∧ xs.length = ys.length ∧ xs.length ≤ 1000 ∧ d = .bl ((List.zipWith (fun x y : Int => decide (x = y)) xs ys).all _root_.id)
theorem sc_exact : FnScope kex ["mine", "theirs"] (defScope (top 66)) := ⟨rfl, rfl, rfl, by decide +kernel, rfl, by decide +kernel, by decide +kernel⟩
section
variable {X : Cx} {a : Expr} {es : List Expr} {ρ : Rho} {T : Th} {pos p p2 p3 p4 tpos : Pos} {d1 : D} {n : String} {r : Bool} {j : Nat}
theorem ii_dict (fr : Fr X.mg) (ha : Ev X a ρ T d1) (ht : tyName d1 = some n := by rfl) (hk : kitB n "dict" = some r := by decide +kernel) (hg : Gl X "isinstance" := by rfl) (hg2 : Gl X "dict" := by rfl) (he : starEach [a, .Name "dict" p2] X.env = (false, eval a X.env) :: starEach [.Name "dict" p2] X.env := by rfl) (he2 : starEach [.Name "dict" p2] X.env = (false, eval (.Name "dict" p2) X.env) :: starEach [] X.env := by rfl) (hpl : (backTo pos (starEach [.Name "dict" p2] X.env)).any (·.1) = false := by rfl) : Ev X (.Call (.Name "isinstance" p) [a, .Name "dict" p2] [] pos) ρ T (.bl r) :=
  ev_isi (m := "dict") fr.isi ha (ev_ty fr.dict (by decide +kernel) hg2) ht hk hg he he2 hpl
theorem ev_isN2 (fr : Fr X.mg) (ha : Ev X a ρ T d1) (ht : tyName d1 = some n) (hk : ∀ K : Fg, PySem.W.kitAny K (.type n) ((["list", "tuple"] : List String).map .type) = some r) (hg : Gl X "isinstance" := by rfl) (hg2 : Gl X "list" := by rfl) (hg3 : Gl X "tuple" := by rfl) (h1 : starEach [.Name "list" p2, .Name "tuple" p3] X.env = (false, eval (.Name "list" p2) X.env) :: starEach [.Name "tuple" p3] X.env := by rfl) (h2 : starEach [.Name "tuple" p3] X.env = (false, eval (.Name "tuple" p3) X.env) :: starEach [] X.env := by rfl)
    (he : starEach [a, .Tuple [.Name "list" p2, .Name "tuple" p3] j tpos] X.env = (false, eval a X.env) :: starEach [.Tuple [.Name "list" p2, .Name "tuple" p3] j tpos] X.env := by rfl) (he2 : starEach [.Tuple [.Name "list" p2, .Name "tuple" p3] j tpos] X.env = (false, eval (.Tuple [.Name "list" p2, .Name "tuple" p3] j tpos) X.env) :: starEach [] X.env := by rfl) (hpl : (backTo pos (starEach [.Tuple [.Name "list" p2, .Name "tuple" p3] j tpos] X.env)).any (·.1) = false := by rfl) :
    Ev X (.Call (.Name "isinstance" p) [a, .Tuple [.Name "list" p2, .Name "tuple" p3] j tpos] [] pos) ρ T (.bl r) :=
  ev_isiT (ms := ["list", "tuple"]) fr.isi ha (eva_cons (ev_ty fr.list (by decide +kernel) hg2) (eva_cons (ev_ty fr.tuple (by decide +kernel) hg3) eva_nil h2) h1) ht hk (by decide) hg he he2 hpl
theorem ev_isN3 (fr : Fr X.mg) (ha : Ev X a ρ T d1) (ht : tyName d1 = some n) (hk : ∀ K : Fg, PySem.W.kitAny K (.type n) ((["list", "tuple", "dict"] : List String).map .type) = some r) (hg : Gl X "isinstance" := by rfl) (hg2 : Gl X "list" := by rfl) (hg3 : Gl X "tuple" := by rfl) (hg4 : Gl X "dict" := by rfl)
    (h1 : starEach [.Name "list" p2, .Name "tuple" p3, .Name "dict" p4] X.env = (false, eval (.Name "list" p2) X.env) :: starEach [.Name "tuple" p3, .Name "dict" p4] X.env := by rfl) (h2 : starEach [.Name "tuple" p3, .Name "dict" p4] X.env = (false, eval (.Name "tuple" p3) X.env) :: starEach [.Name "dict" p4] X.env := by rfl) (h3 : starEach [.Name "dict" p4] X.env = (false, eval (.Name "dict" p4) X.env) :: starEach [] X.env := by rfl)
    (he : starEach [a, .Tuple [.Name "list" p2, .Name "tuple" p3, .Name "dict" p4] j tpos] X.env = (false, eval a X.env) :: starEach [.Tuple [.Name "list" p2, .Name "tuple" p3, .Name "dict" p4] j tpos] X.env := by rfl) (he2 : starEach [.Tuple [.Name "list" p2, .Name "tuple" p3, .Name "dict" p4] j tpos] X.env = (false, eval (.Tuple [.Name "list" p2, .Name "tuple" p3, .Name "dict" p4] j tpos) X.env) :: starEach [] X.env := by rfl) (hpl : (backTo pos (starEach [.Tuple [.Name "list" p2, .Name "tuple" p3, .Name "dict" p4] j tpos] X.env)).any (·.1) = false := by rfl) :
    Ev X (.Call (.Name "isinstance" p) [a, .Tuple [.Name "list" p2, .Name "tuple" p3, .Name "dict" p4] j tpos] [] pos) ρ T (.bl r) :=
  ev_isiT (ms := ["list", "tuple", "dict"]) fr.isi ha (eva_cons (ev_ty fr.list (by decide +kernel) hg2) (eva_cons (ev_ty fr.tuple (by decide +kernel) hg3) (eva_cons (ev_ty fr.dict (by decide +kernel) hg4) eva_nil h3) h2) h1) ht hk (by decide) hg he he2 hpl
theorem kit2F {n : String} (h1 : kitB n "list" = some false) (h2 : kitB n "tuple" = some false) (K : Fg) : PySem.W.kitAny K (.type n) ((["list", "tuple"] : List String).map .type) = some false :=
  kitAny_cons (kit_ty h1) (fun _ => kitAny_cons (kit_ty h2) (fun _ => kitAny_nil) nofun) nofun
theorem kit2T (K : Fg) : PySem.W.kitAny K (.type "list") ((["list", "tuple"] : List String).map .type) = some true :=
  kitAny_cons (b := true) (kit_ty (by decide +kernel)) nofun (fun _ => rfl)
theorem kit3F {n : String} (h1 : kitB n "list" = some false) (h2 : kitB n "tuple" = some false) (h3 : kitB n "dict" = some false) (K : Fg) : PySem.W.kitAny K (.type n) ((["list", "tuple", "dict"] : List String).map .type) = some false :=
  kitAny_cons (kit_ty h1) (fun _ => kitAny_cons (kit_ty h2) (fun _ => kitAny_cons (kit_ty h3) (fun _ => kitAny_nil) nofun) nofun) nofun
end
section
variable {P : Program} {w : World} {K : Fg} {mg : Str → Option Value} {base : Heap} {TB : Th}
theorem w_exB {k : Nat} (to : TabOnly TB) (a : At K mg "_law_exact" (top 66) ["mine", "theirs"]) (fr : Fr mg) : Df P w K mg base TB (k + 1) "_law_exact" sExB :=
  mk_df to a sc_exact (by rintro ds d ⟨x, y, rfl, _⟩; rfl) fun f cdv A outer s H E ds d hr ⟨x, y, e1, e2⟩ => by
    subst e1 e2
    refine ru_cons (ru_if (k := false) (evT_val (ii_dict fr (ev_n 0))) nofun fun _ => ru_nil ?_)
    refine ru_cons (ru_if (k := false) (evT_val (ev_isN2 fr (ev_n 0) rfl (kit2F (by decide +kernel) (by decide +kernel)))) nofun fun _ => ru_nil ?_)
    refine ru_cons (ru_if (k := false) (evT_w (evT_is' (evW_or (k := false) (l := false) (evT_val (ev_isN3 fr (ev_n 1) rfl (kit3F (by decide +kernel) (by decide +kernel) (by decide +kernel)))) fun _ => evW_or1 (evT_is (evT_neB (ev_isN (ev_n 0)) (ev_isN (ev_n 1))) rfl)) rfl)) nofun fun _ => ru_nil ?_)
    refine ru_cons (ru_set 3 sc_exact.nd (d := .bl true) (ev_andV (k := true) (l := true) (ev_is (ev_eqB (i := true) (j := true) (ii_int fr (ev_n 0)) (ii_int fr (ev_n 1))) rfl) fun _ => ev_and1 (ev_is (ev_eqB (i := false) (j := false) (ii_str fr (ev_n 0)) (ii_str fr (ev_n 1))) rfl)) ?_)
    exact ru_one (ru_ret (ev_is (ev_andV (k := true) (ev_n 3) fun _ => ev_andV (k := true) (ev_is (ev_eqB (i := true) (j := true) (ii_bool fr (ev_n 0)) (ii_bool fr (ev_n 1))) rfl) fun _ => ev_and1 (ev_eqB (ev_n 0) (ev_n 1))) rfl) ⟨rfl, rfl⟩)
theorem w_exI {k : Nat} (to : TabOnly TB) (a : At K mg "_law_exact" (top 66) ["mine", "theirs"]) (fr : Fr mg) : Df P w K mg base TB (k + 1) "_law_exact" sExI :=
  mk_df to a sc_exact (by rintro ds d ⟨x, y, rfl, _⟩; rfl) fun f cdv A outer s H E ds d hr ⟨x, y, e1, e2⟩ => by
    subst e1 e2
    refine ru_cons (ru_if (k := false) (evT_val (ii_dict fr (ev_n 0))) nofun fun _ => ru_nil ?_)
    refine ru_cons (ru_if (k := false) (evT_val (ev_isN2 fr (ev_n 0) rfl (kit2F (by decide +kernel) (by decide +kernel)))) nofun fun _ => ru_nil ?_)
    refine ru_cons (ru_if (k := false) (evT_w (evT_is' (evW_or (k := false) (l := false) (evT_val (ev_isN3 fr (ev_n 1) rfl (kit3F (by decide +kernel) (by decide +kernel) (by decide +kernel)))) fun _ => evW_or1 (evT_is (evT_neB (ev_isN (ev_n 0)) (ev_isN (ev_n 1))) rfl)) rfl)) nofun fun _ => ru_nil ?_)
    refine ru_cons (ru_set 3 sc_exact.nd (d := .bl true) (ev_andV (k := true) (l := true) (ev_is (ev_eqB (i := true) (j := true) (ii_int fr (ev_n 0)) (ii_int fr (ev_n 1))) rfl) fun _ => ev_and1 (ev_is (ev_eqB (i := false) (j := false) (ii_str fr (ev_n 0)) (ii_str fr (ev_n 1))) rfl)) ?_)
    exact ru_one (ru_ret (ev_is (ev_andV (k := true) (ev_n 3) fun _ => ev_andV (k := true) (ev_is (ev_eqB (i := false) (j := false) (ii_bool fr (ev_n 0)) (ii_bool fr (ev_n 1))) rfl) fun _ => ev_and1 (ev_eq (ev_n 0) (ev_n 1))) rfl) ⟨rfl, rfl⟩)
theorem w_exL {k : Nat} (to : TabOnly TB) (a : At K mg "_law_exact" (top 66) ["mine", "theirs"]) (fr : Fr mg) (F : Df P w K mg base TB k "_law_exact" sExI) : Df P w K mg base TB (k + 1) "_law_exact" sExL :=
  mk_df to a sc_exact (by rintro ds d ⟨x, y, rfl, _⟩; rfl) fun f cdv A outer s H E ds d hr ⟨xs, ys, e1, h1, h2, e2⟩ => by
    subst e1 e2
    refine ru_cons (ru_if (k := false) (evT_val (ii_dict fr (ev_n 0))) nofun fun _ => ru_nil ?_)
    refine ru_cons (ru_if (k := true) (evT_val (ev_isN2 fr (ev_n 0) rfl kit2T)) (fun _ => ?_) nofun)
    refine ru_cons (ru_set 2 sc_exact.nd (d := .bl true) (ev_is (ev_eqB (i := true) (j := true) (ii_list fr (ev_n 1)) (ii_list fr (ev_n 0))) rfl) ?_)
    refine ru_cons (ru_set 3 sc_exact.nd (d := .bl true) (ev_andV (k := true) (l := true) (ev_n 2) fun _ => ev_and1 (ev_is (ev_eqB (i := false) (j := false) (ii_tuple fr (ev_n 1)) (ii_tuple fr (ev_n 0))) rfl)) ?_)
    refine ru_one (ru_ret (ev_is (ev_andV (k := true) (ev_n 3) fun _ => ev_andV (k := true) (ev_is (ev_eq (ev_len fr.len (ev_n 0) (.fz _)) (ev_len fr.len (ev_n 1) (.fz _))) (congrArg D.bl (by rw [List.length_map, List.length_map, h1]; exact decide_eq_true rfl))) fun _ => ev_and1 (ev_all (bs := (xs.zip ys).map fun p : Int × Int => decide (p.1 = p.2)) fr.all rfl (ev_is (ev_lcA (xs.zip ys) (fun p => .tup [.int p.1, .int p.2]) (fun p => .bl (decide (p.1 = p.2))) [("a", 5), ("b", 6)] _ [5, 6] rfl sc_exact.nd (zip_ints xs ys ▸ evi_zip fr.zip (ev_n 0) (ev_n 1)) rfl (by rw [List.length_zip]; omega) (by simp) (fun x m s H C cl fp => evg_tup rfl (evgs_cons (evg_n 5 sc_exact.nd) (evgs_cons (evg_n 6 sc_exact.nd) evgs_nil))) (fun p m s H C cl fp => ev_call F (Le.refl _) hr (eva_cons (ev_n 5) (eva_cons (ev_n 6) eva_nil)) ⟨p.1, p.2, rfl, rfl⟩)) (by rw [List.map_map]; rfl)))) ?_) ⟨rfl, rfl⟩)
    rw [zw]
    rfl
end
end PU
set_option Elab.async false
set_option linter.all false
set_option maxRecDepth 100000
set_option maxHeartbeats 4000000
/-! W16: purses, balances that are drawn. -/
namespace PU
open PySem PySem.Spec PyProof.Rows L2 LamX
theorem tset_comm {T : Th} {p q : Addr} {c d : D} (h : p ≠ q) : tset (tset T p c) q d = tset (tset T q d) p c := by
  funext b
  unfold PU.tset
  by_cases e1 : b = q
  · rw [if_pos e1, if_neg (by rw [e1]; exact fun z => h z.symm), if_pos e1]
  · rw [if_neg e1, if_neg e1]
theorem tdel_comm {T : Th} {p q : Addr} {c d : D} (h : p ≠ q) (hT : T q = none) : tdel (tset (tset T q d) p c) q = tset T p c := by
  rw [tset_comm (fun z => h z.symm)]
  refine tdel_tset ?_
  rw [tset_ne (fun z => h z.symm)]
  exact hT
section
variable {X : Cx} {ρ : Rho} {T : Th} {R : Rs} {ss : List Stmt} {a b : Expr} {pos : Pos}
/-- a purse may be held to be drawn from more often -/
theorem ru_more {pa : Addr} {n m : Nat} (hT : T pa = some (.prs n)) (hn : n ≤ m) (h : Ru X ss ρ (tset T pa (.prs m)) R) : Ru X ss ρ T R :=
  PSs_imp h fun D σ H ⟨Hf, Hr, w, en, q⟩ => by
    refine ⟨Hf, Hr, ⟨w.f, w.r, w.d, fun c d z => ?_, fun c d z => ?_, fun c C fs ds z => ?_⟩, en, q⟩
    · by_cases e : c = pa
      · subst e; exact w.tf _ _ hT
      · rw [tset_ne e] at z; exact w.tf _ _ z
    · by_cases e : c = pa
      · subst e; rw [tset_same] at z; cases z
        have o1 := w.to _ _ hT
        simp only [Own] at o1 ⊢
        obtain ⟨xs, hx, u, v, c1, l, ex, hh⟩ := o1
        exact ⟨xs, hx, u, v, c1, l, ex, by omega⟩
      · rw [tset_ne e] at z; exact w.to _ _ z
    · by_cases e : c = pa
      · subst e; rw [tset_same] at z; cases z
      · rw [tset_ne e] at z; exact w.tx c C fs ds z
def wW (X : Cx) (e : Expr) : TT := fun σ H Q => ∀ wh pins s, Inv X pins σ H s → wpAny (model X.prog X.w) X.A (isTrue e X.env wh) (TP X pins σ Q) X.xe s
/-- a and b, b a draw -/
theorem evtn_and {k : Bool} {Post : Bool → Th → Prop} (ha : EvT X a ρ T k) (hb : k = true → EvTN X b ρ T Post) (hf : k = false → Post false T) : EvTN X (.BoolOp .And [a, b] pos) ρ T Post := by
  cases k with
  | true => exact PT_imp (pw_and ha (pw_and1 (hb rfl))).pt fun σ H Q ⟨Hf, Hr, w, en, q⟩ => ⟨Hf, Hr, w, en, fun H2 Hf2 e w2 => ⟨Hf2, Hr, w2, en.mono e, fun k' T' H3 Hf3 p e3 w3 => q k' T' H3 Hf3 p (e.trans e3) w3⟩⟩
  | false => exact PT_imp (pw_and ha ⟨fun wh pins s σ H Q I h => (h : wW X (.BoolOp .And [b] pos) σ H Q) wh pins s I⟩).pt fun σ H Q ⟨Hf, Hr, w, en, q⟩ => ⟨Hf, Hr, w, en, fun H2 Hf2 e w2 => q false T H2 Hf2 (hf rfl) e w2⟩
end
/-! ### purses -/
def seedOf (ns : List Int) (at_ : Nat) : Int := ((ns.drop at_).take 1).sum
def purU (s : Int) : Int := max (s - 10 ^ 18) 0 % (10 ^ 60) ^ 8
def purV (s : Int) : Int := s % 2147483629
def purD (ns : List Int) (at_ : Nat) : D := .lst [.int (purU (seedOf ns at_)), .int (purV (seedOf ns at_)), .int 0, .int at_]
theorem pur_ok (ns : List Int) {at_ : Nat} (h : at_ < 100) : 0 ≤ purU (seedOf ns at_) ∧ purU (seedOf ns at_) < 2 ^ 2000 ∧ 0 ≤ purV (seedOf ns at_) ∧ purV (seedOf ns at_) < 2147483629 := by
  have k : (0 : Int) < (10 ^ 60) ^ 8 := by decide +kernel
  refine ⟨Int.emod_nonneg _ (by omega), Int.lt_trans (Int.emod_lt_of_pos _ k) (by decide +kernel), Int.emod_nonneg _ (by decide), Int.emod_lt_of_pos _ (by decide)⟩
def sPurse (ds : List D) (d : D) : Prop := ∃ (ns : List Int) (at_ : Nat), ds = [.scr (ns.map .int), .int at_] ∧ at_ < 100 ∧ ns.length ≤ 63 ∧ d = purD ns at_
def sPurses (ds : List D) (d : D) : Prop := ∃ ns : List Int, ds = [.scr (ns.map .int), .int 3] ∧ ns.length ≤ 63 ∧ d = .lst ((List.range (max 1 (min 3 ns.length))).map fun i => purD ns i)
theorem cut_one (ns : List Int) (n : Nat) : cutD (ns.map D.int) (some (n : Int)) (some ((n : Int) + 1)) = ((ns.drop n).take 1).map D.int := by
  unfold cutD
  rw [show (n : Int) + 1 = ((n + 1 : Nat) : Int) from rfl, HT.sIx_nat, HT.sIx_nat, List.length_map, List.map_take, List.map_drop]
  rcases Nat.lt_or_ge n ns.length with h | h
  · rw [Nat.min_eq_left (by omega), Nat.min_eq_left (by omega), Nat.add_sub_cancel_left]
  · rw [Nat.min_eq_right h, Nat.min_eq_right (by omega), Nat.sub_self, List.drop_of_length_le (by rw [List.length_map]; exact Nat.le_refl _), List.drop_of_length_le (by rw [List.length_map]; exact h)]
    rfl
section
variable {P : Program} {w : World} {K : Fg} {mg : Str → Option Value} {base : Heap} {TB : Th} {R : Type} [Kd R]
theorem sc_purse : FnScope ["script", "at", "seed"] ["script", "at"] (defScope (top 61)) := ⟨rfl, rfl, rfl, by decide +kernel, rfl, by decide +kernel, by decide +kernel⟩
theorem w_purse {k : Nat} (to : TabOnly TB) (a : At K mg "_law_purse" (top 61) ["script", "at"]) (fr : Fr mg) : Df P w K mg base TB (k + 1) "_law_purse" sPurse :=
  mk_df to a sc_purse (by rintro ds d ⟨x, y, rfl, _⟩; rfl) fun f cdv A outer s H E ds d hr ⟨ns, at_, e1, h1, h2, e2⟩ => by
    subst e1 e2
    refine ru_cons (ru_set 2 sc_purse.nd (d := .int (seedOf ns at_)) (ev_sum fr.sum rfl (ev_is (ev_slS (ev_n 0) (evp_some (ev_n 1)) (evp_some (ev_add (ev_n 1) ev_int))) (congrArg D.lst (cut_one ns at_)))) ?_)
    exact ru_one (ru_ret (ev_lst (eva_cons (ev_mod (ev_intI fr.int (ev_max fr.max rfl (ev_sub (ev_n 2) (ev_pow ev_int ev_int (by unfold CPowX; decide +kernel))) ev_int)) (ev_pow (ev_pow ev_int ev_int (by unfold CPowX; decide +kernel)) ev_int (by unfold CPowX; decide +kernel)) (by decide +kernel)) (eva_cons (ev_mod (ev_intI fr.int (ev_n 2)) ev_int (by decide)) (eva_cons ev_int (eva_cons (ev_n 1) eva_nil))))) ⟨rfl, rfl⟩)
theorem sc_purses : FnScope ["script", "few", "at"] ["script", "few"] (defScope (top 64)) := ⟨rfl, rfl, rfl, by decide +kernel, rfl, by decide +kernel, by decide +kernel⟩
theorem w_purses {k : Nat} (to : TabOnly TB) (a : At K mg "_law_purses" (top 64) ["script", "few"]) (fr : Fr mg) (F : Df P w K mg base TB k "_law_purse" sPurse) : Df P w K mg base TB (k + 1) "_law_purses" sPurses :=
  mk_df to a sc_purses (by rintro ds d ⟨x, rfl, _⟩; rfl) fun f cdv A outer s H E ds d hr ⟨ns, e1, h1, e2⟩ => by
    subst e1 e2
    have em : max (1 : Int) (min 3 ((ns.map D.int).length : Nat)) = ((max 1 (min 3 ns.length) : Nat) : Int) := by
      rw [List.length_map]; omega
    exact ru_one (ru_ret (ev_lcA (List.range (max 1 (min 3 ns.length))) (fun i => .int (i : Nat)) (fun i => purD ns i) [("at", 2)] _ [2] rfl sc_purses.nd (evi_rangeN fr.range (ev_is (ev_max fr.max rfl ev_int (ev_min fr.min rfl (ev_n 1) (ev_lenS fr.len (ev_n 0)))) (congrArg D.int em)) (by omega)) rfl (by rw [List.length_range]; omega) (by simp) (fun x m s H C cl fp => evg_n 2 sc_purses.nd) (fun i m s H C cl fp => ev_call F (Le.refl _) hr (eva_cons (ev_n 0) (eva_cons (ev_n 2) eva_nil)) ⟨ns, i, rfl, by have := List.mem_range.mp m; omega, h1, rfl⟩)) ⟨rfl, rfl⟩)
end
end PU
set_option Elab.async false
set_option linter.all false
set_option maxRecDepth 100000
set_option maxHeartbeats 4000000
/-! W17: balances that are drawn. -/
namespace PU
open PySem PySem.Spec PyProof.Rows L2 LamX
section
variable {X : Cx} {e1 e2 e3 : Expr} {ρ : Rho} {T TB : Th} {pos p : Pos} {k : Nat} {Post : D → Th → Prop} {R : Type} [Kd R]
theorem evn_numb {pa : Addr} {n : Nat} {m : Int} (to : TabOnly TB) (F : Dn X.prog X.w X.K X.mg X.base k "_law_number" (sNumb R TB)) (le : Le TB T) (hp : TB pa = none) (hT : T pa = some (.prs n)) (hr : Room k X.A) (ha : EvA X [e1, e2, e3] ρ T [.ptr pa, .str (Kd.kind R), .int m]) (m0 : 0 < m) (m1 : m < 2 ^ 900) (hn : n ≤ 1000000000)
    (h : ∀ x : R, -m ≤ Kd.num x → Kd.num x ≤ m → Post (nI R x) (tset T pa (.prs (n + 50)))) (hg : Gl X "_law_number" := by rfl) (he : starEach [e1, e2, e3] X.env = (false, eval e1 X.env) :: starEach [e2, e3] X.env := by rfl) (hpl : (backTo pos (starEach [e2, e3] X.env)).any (·.1) = false := by rfl) : EvN X (.Call (.Name "_law_number" p) [e1, e2, e3] [] pos) ρ T Post :=
  evn_call F hr (evna_of ha ⟨prT TB pa n, _, ⟨pa, n, m, rfl, hp, rfl, m0, m1, hn, rfl⟩, noObj_pr to pa n, fun d T' ⟨r, _, _, _, e⟩ => by subst e; exact ⟨noObj_pr to pa _, fun a => dom_pr pa _ _ a⟩, le_pr le hT, fun d T' ⟨x, e1, r0, r1, e2⟩ => by
    subst e1 e2
    rw [over_tset le]
    exact h x r0 r1⟩) hg (by decide) he hpl
theorem rem_rem (x y : R) (h : 0 < Kd.num y) : Kd.rem (Kd.rem x y) y = Kd.rem x y := by
  have e := Kd.quo_rem x y h
  conv => rhs; rw [e]
  have := Kd.rem_add (Kd.rem x y) (Kd.quo x y) y h
  rw [← this]
  congr 1
  grind
theorem sm_abs {i : Int} {m : Nat} (h1 : -(2 ^ m) < i) (h2 : i < 2 ^ m) : bitsOf i ≤ m := by
  unfold bitsOf Builtin.Int.intBits
  split
  · omega
  · rename_i z
    have z' : i ≠ 0 := by simpa using z
    have : i.natAbs < 2 ^ m := by
      have e : ((2 ^ m : Nat) : Int) = 2 ^ m := by simp
      omega
    have := (Nat.log2_lt (by omega)).mpr this
    omega
theorem bits_mono {i j : Int} (h0 : 0 ≤ i) (h : i ≤ j) : bitsOf i ≤ bitsOf j := by
  have e1 : i = ((i.toNat : Nat) : Int) := by omega
  have e2 : j = ((j.toNat : Nat) : Int) := by omega
  rw [e1, e2, bits_nat, bits_nat]
  exact bl_le (Nat.lt_of_le_of_lt (by omega) (lt_bl _))
end
section
variable {R : Type} [Kd R]
def sLBal (R : Type) [Kd R] (TB : Th) (ds : List D) (T : Th) (Post : D → Th → Prop) : Prop := ∃ (pa : Addr) (n : Nat) (ns : List Str) (y : R), ds = [.ptr pa, .str (Kd.kind R), .lst (ns.map .str), nI R y, .int 30, .non] ∧ TB pa = none ∧ T = prT TB pa n ∧ NmOk ns ∧ ns.length ≤ 10 ∧ 0 < Kd.num y ∧ bitsOf (Kd.num y) ≤ 100 ∧ n ≤ 100000000 ∧
  Post = fun d T' => ∃ b : Bal R, d = bD R b ∧ b.by_ = y ∧ BalOk b ∧ (∀ t ∈ b.terms, t.1 ∈ ns) ∧ T' = prT TB pa (n + 2000)
theorem NmOk.sub {ns ms : List Str} (h : NmOk ns) (s : ms.Sublist ns) : NmOk ms :=
  ⟨Nat.le_trans s.length_le h.few, fun n m => h.let_ n (s.subset m), h.asc.sublist (s.map rk)⟩
abbrev prQ (TB : Th) (q : Addr) (c : D) (pa : Addr) (n : Nat) : Th := tset (tset TB q c) pa (.prs n)
end
section
variable {P : Program} {w : World} {K : Fg} {mg : Str → Option Value} {base : Heap} {TB : Th} {R : Type} [Kd R]
abbrev klb : List Str := ["purse", "kind", "names", "by", "most", "words", "terms", "name", "factor", "total"]
theorem sc_lbal : FnScope klb ["purse", "kind", "names", "by", "most", "words"] (defScope (top 73)) := ⟨rfl, rfl, rfl, by decide +kernel, rfl, by decide +kernel, by decide +kernel⟩
theorem w_lbal {k : Nat} (to : TabOnly TB) (a : At K mg "_law_balance" (top 73) ["purse", "kind", "names", "by", "most", "words"]) (fr : Fr mg) (F1 : Dn P w K mg base k "_law_draw" (sDraw TB)) (F2 : Dn P w K mg base k "_law_number" (sNumb R TB)) (F3 : Df P w K mg base TB k "_law_rest" (sRem R)) : Dn P w K mg base (k + 1) "_law_balance" (sLBal R TB) :=
  mk_dn a sc_lbal (by rintro ds T Post ⟨pa, n, ns, y, rfl, _⟩; rfl) fun f cdv A outer s H E ds T Post hr ⟨pa, n, ns, y, e1, hp, e2, nm, nl, y0, y1, hn, e3⟩ => by
    subst e1 e2 e3
    have remSm : ∀ x : R, Sm (Kd.rem x y) := fun x => Nat.le_trans (bits_mono (Kd.rem_nonneg x y y0) (Int.le_of_lt (Kd.rem_lt x y y0))) (Nat.le_trans y1 (by decide))
    have xSm : ∀ x : R, -30 ≤ Kd.num x → Kd.num x ≤ 30 → bitsOf (Kd.num x) ≤ 2 ^ 25 := fun x a b => Nat.le_trans (sm_abs (m := 5) (by omega) (by omega)) (by decide)
    refine ru_cons (ru_setN 6 sc_lbal.nd (evn_newL fun q hq => ?_))
    have hqp : q ≠ pa := fun z => by rw [z, show prT TB pa n pa = some (.prs n) from tset_same] at hq; cases hq
    have hqT : TB q = none := by rw [show prT TB pa n q = TB q from tset_ne hqp] at hq; exact hq
    have le : ∀ c n, Le TB (prQ TB q c pa n) := fun c n => le_set (le_set (Le.refl TB) hqT) hp
    have hTq : ∀ c n, prQ TB q c pa n q = some c := fun c n => by unfold prQ; rw [tset_ne hqp, tset_same]
    rw [show tset (prT TB pa n) q (.lst []) = prQ TB q (.lst []) pa n from tset_comm hqp.symm]
    refine ru_cons (ru_for (fun i ρ T => ∃ (acc : Tm R) (v7 v8 : Option D), T = prQ TB q (tsD R acc) pa (n + 100 * i) ∧ ρ = [some (.ptr pa), some (.str (Kd.kind R)), some (.lst (ns.map .str)), some (nI R y), some (.int 30), some .non, some (.ptr q), v7, v8, none] ∧ (acc.map fun t => t.1).Sublist (ns.take i) ∧ ∀ t ∈ acc, Kd.num t.2 ≠ 0 ∧ Sm t.2 ∧ Kd.rem t.2 y = t.2) ⟨[], none, none, rfl, rfl, List.Sublist.refl _, fun t h => nomatch h⟩ PassesOwn.never rfl (evi_list (ev_n 2)) (fun i d ρ T hd ⟨acc, v7, v8, eT, eρ, hs, ht⟩ => ?_) ?_)
    · subst eT eρ
      rw [List.getElem?_map] at hd
      cases z : ns[i]? with
      | none => rw [z] at hd; cases hd
      | some nm' =>
        rw [z] at hd
        cases (Option.some.inj hd)
        have hi := (List.getElem?_eq_some_iff.mp z).1
        refine ⟨_, _, evg_n 7 sc_lbal.nd, ?_⟩
        refine ru_cons (ru_setN 8 sc_lbal.nd (evn_callP F3 hr (evna_cons (evn_of (ev_n 1) (evna_cons (evn_numb to F2 (le _ _) hp tset_same hr (eva_cons (ev_n 0) (eva_cons (ev_n 1) (eva_cons (ev_n 4) eva_nil))) (by decide) (by decide) (by omega) fun x x0 x1 => evna_of (eva_cons (ev_n 3) eva_nil) ⟨?_, nI R (Kd.rem x y), ⟨x, y, rfl, xSm x x0 x1, Int.le_of_lt y0, Nat.le_trans y1 (by decide), rfl⟩, ?_⟩))))))
        · rw [tset_tset]; exact le _ _
        · rw [tset_tset]
          refine ru_one (ru_ifN (evtn_and (evT_ne (ev_n 8) ev_int) (fun hk => evtn_cmp op_gt (evn_draw to F1 (le _ _) hp tset_same hr (eva_cons (ev_n 0) (eva_cons ev_int eva_nil)) (by decide) (by decide) (by omega) fun r r0 r1 => evn_of ev_int ⟨decide (0 < r), r2_I0 fun _ => is_bl.mpr rfl, fun _ => ?_, fun _ => ?_⟩) (nomark _)) (fun hk => ⟨nofun, fun _ => ?_⟩)))
          · rw [tset_tset]
            refine ru_more (m := n + 100 * (i + 1)) tset_same (by omega) ?_
            rw [tset_tset]
            refine ru_one (ru_app (ev_n 6) (hTq _ _) (ev_tup (eva_cons (ev_n 7) (eva_cons (ev_n 8) eva_nil))) ?_ ⟨acc ++ [(nm', Kd.rem x y)], _, _, ?_, rfl, ?_, ?_⟩)
            · rw [List.length_map]
              have := hs.length_le
              rw [List.length_map, List.length_take] at this
              omega
            · unfold prQ
              rw [tset_comm hqp.symm, tset_tset]
              unfold tsD
              rw [List.map_append]; rfl
            · rw [List.map_append, List.take_add_one, z]
              exact hs.append (List.Sublist.refl _)
            · intro t hm
              rcases List.mem_append.mp hm with hm | hm
              · exact ht t hm
              · simp only [List.mem_singleton] at hm
                subst hm
                exact ⟨by simpa using hk, remSm x, rem_rem x y y0⟩
          · rw [tset_tset]
            refine ru_more (m := n + 100 * (i + 1)) tset_same (by omega) ?_
            rw [tset_tset]
            exact ru_nil ⟨acc, _, _, rfl, rfl, by rw [List.take_add_one]; exact hs.trans (List.sublist_append_left _ _), ht⟩
          · refine ru_more (m := n + 100 * (i + 1)) tset_same (by omega) ?_
            rw [tset_tset]
            exact ru_nil ⟨acc, _, _, rfl, rfl, by rw [List.take_add_one]; exact hs.trans (List.sublist_append_left _ _), ht⟩
    · rintro ρ T ⟨acc, v7, v8, eT, eρ, hs, ht⟩
      subst eT eρ
      rw [List.length_map]
      rw [List.length_map, List.take_length] at hs
      refine ru_cons (ru_setN 9 sc_lbal.nd (evn_if (k := true) (evT_is (evT_isN (ev_n 5)) rfl) (fun _ => evn_numb to F2 (le _ _) hp tset_same hr (eva_cons (ev_n 0) (eva_cons (ev_n 1) (eva_cons (ev_n 4) eva_nil))) (by decide) (by decide) (by omega) fun x x0 x1 => ?_) nofun))
      rw [tset_tset]
      refine ru_freeze 6 rfl (hTq _ _) ?_
      rw [show tdel (prQ TB q (tsD R acc) pa (n + 100 * ns.length + 50)) q = prT TB pa (n + 100 * ns.length + 50) from tdel_comm hqp.symm hqT]
      refine ru_more (m := n + 2000) tset_same (by omega) ?_
      rw [tset_tset]
      refine ru_one (ru_ret (ev_tup (eva_cons (ev_n 6) (eva_cons (ev_call F3 ((Le.refl TB).tset hp) hr (eva_cons (ev_n 1) (eva_cons (ev_n 9) (eva_cons (ev_n 3) eva_nil))) ⟨x, y, rfl, xSm x x0 x1, Int.le_of_lt y0, Nat.le_trans y1 (by decide), rfl⟩) (eva_cons (ev_n 3) eva_nil)))) ⟨⟨acc, Kd.rem x y, y⟩, rfl, rfl, ⟨⟨Int.le_of_lt y0, Nat.le_trans y1 (by decide)⟩, ⟨nm.sub hs, fun t m => (ht t m).1, fun t m => (ht t m).2.1, fun t m => (ht t m).2.2⟩, remSm x, rem_rem x y y0⟩, fun t m => hs.subset (List.mem_map_of_mem m), rfl⟩)
end
end PU
set_option Elab.async false
set_option linter.all false
set_option maxRecDepth 100000
set_option maxHeartbeats 4000000
/-! W18: the rules that the law's main part wants. -/
namespace PU
open PySem PySem.Spec PyProof.Rows L2 LamX
section
variable {X : Cx} {a e1 e2 e3 e4 e5 e6 : Expr} {ρ : Rho} {T TB : Th} {pos p p2 : Pos} {k : Nat} {Post : D → Th → Prop} {R : Type} [Kd R]
theorem evn_one {pa : Addr} {n : Nat} {xs : List D} (to : TabOnly TB) (F : Dn X.prog X.w X.K X.mg X.base k "_law_one_of" (sOne TB)) (le : Le TB T) (hp : TB pa = none) (hT : T pa = some (.prs n)) (hr : Room k X.A) (ha : EvA X [e1, e2] ρ T [.ptr pa, .lst xs]) (m0 : 0 < xs.length) (m1 : xs.length ≤ 1000) (hn : n ≤ 1000000000)
    (h : ∀ d ∈ xs, Post d (tset T pa (.prs (n + 50)))) (hg : Gl X "_law_one_of" := by rfl) (he : starEach [e1, e2] X.env = (false, eval e1 X.env) :: starEach [e2] X.env := by rfl) (hpl : (backTo pos (starEach [e2] X.env)).any (·.1) = false := by rfl) : EvN X (.Call (.Name "_law_one_of" p) [e1, e2] [] pos) ρ T Post :=
  evn_call F hr (evna_of ha ⟨prT TB pa n, _, ⟨pa, n, xs, rfl, hp, rfl, m0, m1, hn, rfl⟩, noObj_pr to pa n, fun d T' ⟨_, e⟩ => by subst e; exact ⟨noObj_pr to pa _, fun a => dom_pr pa _ _ a⟩, le_pr le hT, fun d T' ⟨hd, e2⟩ => by
    subst e2
    rw [over_tset le]
    exact h d hd⟩) hg (by decide) he hpl
theorem evn_lbal {pa : Addr} {ns : List Str} (to : TabOnly TB) (F : Dn X.prog X.w X.K X.mg X.base k "_law_balance" (sLBal R TB)) (hp : TB pa = none) (hr : Room k X.A)
    (ha : EvNA X [e1, e2, e3, e4, e5, e6] ρ T fun ds T1 => ∃ (n : Nat) (y : R), ds = [.ptr pa, .str (Kd.kind R), .lst (ns.map .str), nI R y, .int 30, .non] ∧ Le TB T1 ∧ T1 pa = some (.prs n) ∧ NmOk ns ∧ ns.length ≤ 10 ∧ 0 < Kd.num y ∧ bitsOf (Kd.num y) ≤ 100 ∧ n ≤ 100000000 ∧
      ∀ b : Bal R, b.by_ = y → BalOk b → (∀ t ∈ b.terms, t.1 ∈ ns) → Post (bD R b) (tset T1 pa (.prs (n + 2000))))
    (hg : Gl X "_law_balance" := by rfl) (he : starEach [e1, e2, e3, e4, e5, e6] X.env = (false, eval e1 X.env) :: starEach [e2, e3, e4, e5, e6] X.env := by rfl) (hpl : (backTo pos (starEach [e2, e3, e4, e5, e6] X.env)).any (·.1) = false := by rfl) : EvN X (.Call (.Name "_law_balance" p) [e1, e2, e3, e4, e5, e6] [] pos) ρ T Post :=
  evn_call F hr (PA_imp ha fun σ H Q ⟨Hf, Hr, w, en, q⟩ => ⟨Hf, Hr, w, en, fun ds T1 vs H2 Hf2 ⟨n, y, e1, le, hT, nm, nl, y0, y1, hn, h⟩ e2 w2 i => q ds T1 vs H2 Hf2 ⟨prT TB pa n, _, ⟨pa, n, ns, y, e1, hp, rfl, nm, nl, y0, y1, hn, rfl⟩, noObj_pr to pa n, fun d T' ⟨b, _, _, _, _, e⟩ => by subst e; exact ⟨noObj_pr to pa _, fun a => dom_pr pa _ _ a⟩, le_pr le hT, fun d T' ⟨b, e3, b1, b2, b3, e4⟩ => by
    subst e3 e4
    rw [over_tset le]
    exact h b b1 b2 b3⟩ e2 w2 i⟩) hg (by decide) he hpl
/-- xs[:e], e a draw -/
theorem evn_slTo {ds : List D} (ha : Ev X a ρ T (.lst ds)) (h : EvN X e1 ρ T fun d T' => ∃ i : Int, d = .int i ∧ Post (.lst (cutD ds none (some i))) T') : EvN X (.Subscript a (.Slice none (some e1) none p2) pos) ρ T Post :=
  PE_imp (pe_slice sl_list ha evp_none (po_some h)) fun σ H Q ⟨Hf, Hr, w, en, q⟩ => ⟨Hf, Hr, w, en, fun v H2 Hf2 e w2 k => ⟨Hf2, Hr, w2, en.mono e, fun H3 Hf3 e3 w3 => ⟨Hf3, Hr, w3, (en.mono e).mono e3, fun d T' v4 H4 Hf4 ⟨i, ed, hp⟩ e4 w4 i4 => by
    subst ed
    refine ⟨i, is_int.mp i4, ?_⟩
    obtain ⟨p, vs, rfl, hpp, i1⟩ := is_lst.mp ((k.mono e3).mono e4)
    exact ⟨p, vs, rfl, SqL.of (w4.f _ _ hpp), fun r hr => q _ _ _ _ (upd Hf4 r _) hp (((e.trans e3).trans e4).trans (Ex.new (w4.f.back hr))) (w4.new hr) (new_lst (w4.f.back hr) (isL_cut i1 _ _))⟩⟩⟩⟩
end
/-! ### what the mathematics tells -/
section
variable {R : Type} [Kd R]
def withT (bs : List (Bal R)) (t : List Nat) : List (Bal R) := List.zipWith (fun b n => ⟨b.terms, Kd.of n, b.by_⟩) bs t
def noT (bs : List (Bal R)) : List (Bal R) := bs.map fun b => ⟨b.terms, 0, b.by_⟩
def sizes (bs : List (Bal R)) : List Nat := bs.map fun b => Kd.size b.by_
/-- one scale's turns: whether numbers keep it, how many there are if they do -/
def Turns (bs : List (Bal R)) (p : R) (S : Nat) (ok : Bool) : Prop := ∃ (ns : List Str) (l : Lds R) (rows : List (List R)) (row : List R) (s : Option Nat) (out : Lds R) (first : List R), TuR bs p ns l rows row s out first ∧ (s = none → ChoOk p out ∧ (∀ n ∈ chos p out, n < 2 ^ 9000) ∧ prodN (chos p out) = S) ∧ s.isNone = ok
structure MathR (bs : List (Bal R)) (p : R) (ns : List Str) (S : Nat) (ok : List Nat → Bool) : Prop where
  pos : 0 < S
  big : S < 2 ^ 100000
  zero : Turns (noT bs) p S true
  all : ∀ t ∈ totT (sizes bs), Turns (withT bs t) p S (ok t)
  sum : ((totT (sizes bs)).filter ok).length * S = Kd.size p ^ ns.length
/-- what is drawn -/
def perL (R : Type) [Kd R] : List Nat := if decide (Kd.kind R = ("hours" : Str)) then [2, 4, 6, 6] else [2, 4, 6, 5]
def divL (p : R) : List Nat := (((List.range 11).filter fun i => decide (Kd.num (Kd.rem p (Kd.of (2 + i))) = 0) && inV (.int (Kd.num (Kd.rem (Kd.of (2 + i)) p))) [.int ((2 + i : Nat) : Int), .int 0])).map fun i => 2 + i
structure Drawn (bs : List (Bal R)) (p : R) (ns : List Str) : Prop where
  per : ∃ n ∈ perL R, p = Kd.of n
  names : ∃ j, j < 4 ∧ ns = letters.take (1 + j)
  rows : ∃ bs0 : List (Bal R), 1 ≤ bs0.length ∧ bs0.length ≤ 2 ∧ bs = bs0 ++ [⟨ns.map fun n => (n, 1), 0, p⟩] ∧ ∀ b ∈ bs0, (∃ n ∈ divL p, b.by_ = Kd.of n) ∧ BalOk b ∧ ∀ t ∈ b.terms, t.1 ∈ ns
end
end PU
set_option Elab.async false
set_option linter.all false
set_option maxRecDepth 100000
set_option maxHeartbeats 4000000
/-! W19: the law's main part. -/
namespace PU
open PySem PySem.Spec PyProof.Rows L2 LamX
class KdS (R : Type) [Kd R] : Prop where
  sz : ∀ y : R, 0 < Kd.num y → 1 ≤ Kd.size y ∧ (Kd.size y : Int) ≤ Kd.num y
instance : KdS Int := ⟨fun y h => by
  have h' : (0 : Int) < y := h
  show 1 ≤ y.toNat ∧ ((y.toNat : Nat) : Int) ≤ y
  omega⟩
instance : KdS Pol := ⟨fun y h => by
  have h' : 0 < y.val := by have : (0 : Int) < (y.val : Int) := h; omega
  have := two_bl_le h'
  have := Nat.two_pow_pos (bl y.val - 1)
  show 1 ≤ 2 ^ (bl y.val - 1) ∧ ((2 ^ (bl y.val - 1) : Nat) : Int) ≤ (y.val : Int)
  omega⟩
section
variable {R : Type} [Kd R]
def sRight (R : Type) [Kd R] (TB : Th) (ds : List D) (T : Th) (Post : D → Th → Prop) : Prop := ∃ (pa : Addr) (n : Nat), ds = [.ptr pa, .str (Kd.kind R)] ∧ TB pa = none ∧ T = prT TB pa n ∧ n ≤ 10000000 ∧ Post = fun d T' => d = .bl true ∧ T' = prT TB pa (n + 10000)
theorem prQ_set {TB : Th} {q pa : Addr} {c c' : D} {n : Nat} (h : q ≠ pa) : tset (prQ TB q c pa n) q c' = prQ TB q c' pa n := by
  unfold prQ
  rw [tset_comm h.symm, tset_tset]
theorem per_int (n : Nat) : D.int (n : Int) = nI R (Kd.of n) := by unfold nI; rw [Kd.num_of]
theorem Turns.many {bs : List (Bal R)} {p : R} {S : Nat} {ok : Bool} (h : Turns bs p S ok) : sMany R [scD R bs, nI R p] (.int (if ok = true then (S : Int) else 0)) ∧ sCanBal R [scD R bs] (.bl ok) := by
  obtain ⟨ns, l, rows, row, s, out, first, tu, h1, h2⟩ := h
  refine ⟨⟨bs, p, ns, l, rows, row, s, out, first, rfl, tu, fun e => ⟨(h1 e).1, (h1 e).2.1⟩, ?_⟩, ⟨bs, ns, l, rows, row, s, rfl, tu.nm, tu.wk, by rw [h2]⟩⟩
  cases s with
  | none =>
    have : ok = true := h2.symm
    subst this
    rw [if_pos rfl, if_pos rfl, (h1 rfl).2.2]
  | some i =>
    have : ok = false := h2.symm
    subst this
    rw [if_neg (by decide), if_neg (by simp)]
theorem prodN_le : ∀ (a : List Nat) (k : Nat), (∀ n ∈ a, n ≤ k) → prodN a ≤ k ^ a.length
  | [], k, _ => by simp [prodN]
  | x :: a, k, h => by
    have h1 := h x List.mem_cons_self
    have h2 := prodN_le a k fun n hn => h n (List.mem_cons_of_mem _ hn)
    show x * prodN a ≤ _
    rw [List.length_cons, Nat.pow_succ, Nat.mul_comm]
    exact Nat.mul_le_mul h2 h1
theorem zip_nat (bs : List (Bal R)) (t : List Nat) : zipD (bs.map (bD R)) (t.map fun n : Nat => D.int (n : Nat)) = (bs.zip t).map fun q => .tup [bD R q.1, nI R (Kd.of q.2)] := by
  unfold zipD
  rw [zw, List.zip_map, List.map_map]
  apply List.map_congr_left
  intro q _
  show D.tup [bD R q.1, .int (q.2 : Nat)] = _
  rw [per_int (R := R)]
theorem rem_self (p : R) (h : 0 < Kd.num p) [KdS R] : Kd.rem p p = 0 := by
  have h0 : Kd.rem (0 : R) p = 0 := (Kd.rem_fix 0 p h).mpr (by rw [Kd.num0]; have := (KdS.sz p h).1; omega)
  have := Kd.rem_add (0 : R) 1 p h
  rw [h0] at this
  rw [← this]
  congr 1
  grind
end
section
variable {P : Program} {w : World} {K : Fg} {mg : Str → Option Value} {base : Heap} {TB : Th} {R : Type} [Kd R] [KdL R] [KdS R]
abbrev krt : List Str := ["purse", "kind", "period", "divisors", "names", "many", "rows", "name", "bys", "whole", "still", "found", "met", "totals", "row", "scale", "count", "by", "spin", "balance", "terms", "total", "old"]
theorem sc_right : FnScope krt ["purse", "kind"] (defScope (top 76)) := ⟨rfl, rfl, rfl, by decide +kernel, rfl, by decide +kernel, by decide +kernel⟩
theorem w_right {k : Nat} (to : TabOnly TB) (a : At K mg "_law_right" (top 76) ["purse", "kind"]) (fr : Fr mg) (F1 : Dn P w K mg base k "_law_one_of" (sOne TB)) (F2 : Dn P w K mg base k "_law_draw" (sDraw TB)) (F3 : Dn P w K mg base k "_law_balance" (sLBal R TB)) (F4 : Df P w K mg base TB k "_law_rest" (sRem R)) (F5 : Df P w K mg base TB k "_law_size" (sSize R)) (F6 : Df P w K mg base TB k "how_many_turns" (sMany R)) (F7 : Df P w K mg base TB k "_law_totals" (sTotals R)) (F8 : Df P w K mg base TB k "_law_exact" sExB) (F9 : Df P w K mg base TB k "_law_exact" sExL) (F10 : Df P w K mg base TB k "can_be_balanced" (sCanBal R))
    (hM : ∀ (bs : List (Bal R)) (p : R) (ns : List Str), Drawn bs p ns → ∃ S ok, MathR bs p ns S ok) : Dn P w K mg base (k + 1) "_law_right" (sRight R TB) :=
  mk_dn a sc_right (by rintro ds T Post ⟨pa, n, rfl, _⟩; rfl) fun f cdv A outer s H E ds T Post hr ⟨pa, n, e1, hp, e2, hn, e3⟩ => by
    subst e1 e2 e3
    have le0 : ∀ n, Le TB (prT TB pa n) := fun n => (Le.refl TB).tset hp
    refine ru_cons (ru_setN 2 sc_right.nd (evn_one (xs := (perL R).map fun n : Nat => D.int (n : Nat)) to F1 (le0 _) hp tset_same hr (eva_cons (ev_n 0) (eva_cons (ev_if (evT_eqS (ev_n 1) ev_str) (fun h => ?_) (fun h => ?_)) eva_nil)) (by unfold perL; split <;> decide) (by unfold perL; split <;> decide) (by omega) fun d hd => ?_))
    · unfold perL; rw [if_pos h]
      exact ev_lst (eva_cons ev_int (eva_cons ev_int (eva_cons ev_int (eva_cons ev_int eva_nil))))
    · unfold perL; rw [if_neg (by rw [h]; decide)]
      exact ev_lst (eva_cons ev_int (eva_cons ev_int (eva_cons ev_int (eva_cons ev_int eva_nil))))
    obtain ⟨pn, hpn, rfl⟩ := List.mem_map.mp hd
    rw [per_int (R := R), tset_tset]
    have pn6 : 2 ≤ pn ∧ pn ≤ 6 := by
      unfold perL at hpn
      split at hpn <;> simp at hpn <;> omega
    generalize hpe : (Kd.of pn : R) = p
    have pnum : Kd.num p = (pn : Int) := by rw [← hpe, Kd.num_of]
    have p0 : 0 < Kd.num p := by omega
    have ofb : ∀ m : Nat, m ≤ 12 → bitsOf (Kd.num (Kd.of m : R)) ≤ 4 := fun m hm => by
      rw [Kd.num_of, bits_nat]; exact bl_le (by omega)
    have pb : bitsOf (Kd.num p) ≤ 4 := by rw [← hpe]; exact ofb pn (by omega)
    -- the divisors
    refine ru_cons (ru_set 3 sc_right.nd (d := .lst ((divL p).map fun n : Nat => D.int (n : Nat))) (ev_is (ev_lc (List.range 11) (fun i => .int (2 + (i : Nat))) (fun i => decide (Kd.num (Kd.rem p (Kd.of (2 + i))) = 0) && inV (.int (Kd.num (Kd.rem (Kd.of (2 + i)) p))) [.int ((2 + i : Nat) : Int), .int 0]) (fun i => .int ((2 + i : Nat) : Int)) [("by", 17)] _ [17] rfl sc_right.nd (evi_range2 fr.range ev_int ev_int (by decide)) rfl (by decide) (by simp) (fun x m s H C cl fp => evg_n 17 sc_right.nd) (fun i m s H C cl fp => ?_) (fun i m _ s H C cl fp => ?_)) ?_) ?_)
    · have hi := List.mem_range.mp m
      have o0 : 0 < Kd.num (Kd.of (2 + i) : R) := by rw [Kd.num_of]; omega
      have eby : D.int (2 + ((i : Nat) : Int)) = nI R (Kd.of (2 + i)) := by rw [← per_int]; rfl
      rw [eby]
      exact evts_one (evT_w (evW_and (evT_eq (ev_call F4 (le0 _) hr (eva_cons (ev_n 1) (eva_cons (ev_n 2) (eva_cons (ev_n 17) eva_nil))) ⟨p, Kd.of (2 + i), rfl, Nat.le_trans pb (by decide), Int.le_of_lt o0, Nat.le_trans (ofb _ (by omega)) (by decide), rfl⟩) ev_int) fun _ => evW_and1 (evT_is (evT_in (ev_call F4 (le0 _) hr (eva_cons (ev_n 1) (eva_cons (ev_n 17) (eva_cons (ev_n 2) eva_nil))) ⟨Kd.of (2 + i), p, rfl, Nat.le_trans (ofb _ (by omega)) (by decide), Int.le_of_lt p0, Nat.le_trans pb (by decide), rfl⟩) (ev_lst (eva_cons (ev_n 17) (eva_cons ev_int eva_nil)))) (by rw [Kd.num_of]))))
    · exact ev_is (ev_n 17) rfl
    · unfold divL; rw [List.map_map]; rfl
    -- names, how many balances
    refine ru_cons (ru_asgN (evn_tup (evna_cons (evn_slTo (ds := letters.map D.str) (ev_lst (eva_cons ev_str (eva_cons ev_str (eva_cons ev_str (eva_cons ev_str eva_nil))))) (evn_op op_add (evn_of ev_int (evn_draw to F2 (le0 _) hp tset_same hr (eva_cons (ev_n 0) (eva_cons ev_int eva_nil)) (by decide) (by decide) (by omega) fun j j0 j1 => ⟨.int (1 + j), r2_I0 fun _ => is_int.mpr rfl, 1 + j, rfl, ?_⟩)))))))
    rw [tset_tset]
    refine evna_cons (evn_op op_add (evn_of ev_int (evn_draw to F2 (le0 _) hp tset_same hr (eva_cons (ev_n 0) (eva_cons ev_int eva_nil)) (by decide) (by decide) (by omega) fun u u0 u1 => ⟨.int (1 + u), r2_I0 fun _ => is_int.mpr rfl, evna_nil ⟨by simp, _, _, evg_tup rfl (evgs_cons (evg_n 4 sc_right.nd) (evgs_cons (evg_n 5 sc_right.nd) evgs_nil)), ?_⟩⟩)))
    rw [tset_tset]
    obtain ⟨jn, rfl⟩ : ∃ jn : Nat, j = (jn : Int) := ⟨j.toNat, by omega⟩
    obtain ⟨un, rfl⟩ : ∃ un : Nat, u = (un : Int) := ⟨u.toNat, by omega⟩
    have ecut : cutD (letters.map D.str) none (some (1 + (jn : Int))) = (letters.take (1 + jn)).map D.str := by
      rw [show (1 : Int) + (jn : Int) = ((1 + jn : Nat) : Int) by omega, cut_to, List.map_take]
    rw [ecut]
    generalize hns : letters.take (1 + jn) = ns
    have nmok : NmOk ns := by
      rw [← hns]
      exact NmOk.sub ⟨by decide, fun n h => h, by decide +kernel⟩ (List.take_sublist _ _)
    have nsl : ns.length ≤ 4 := by rw [← hns, List.length_take]; have : letters.length = 4 := rfl; omega
    -- the balances
    have dv : ∀ d ∈ (divL p).map (fun n : Nat => D.int (n : Nat)), ∃ m ∈ divL p, d = nI R (Kd.of m) ∧ 2 ≤ m ∧ m ≤ 12 := fun d hd => by
      obtain ⟨m, hm, rfl⟩ := List.mem_map.mp hd
      refine ⟨m, hm, per_int m, ?_⟩
      unfold divL at hm
      obtain ⟨i, hi, rfl⟩ := List.mem_map.mp hm
      have := List.mem_range.mp (List.mem_filter.mp hi).1
      omega
    have dpos : 0 < ((divL p).map (fun n : Nat => D.int (n : Nat))).length := by
      rw [List.length_map]
      refine List.length_pos_iff.mpr fun z => ?_
      have hm : pn ∈ divL p := by
        unfold divL
        refine List.mem_map.mpr ⟨pn - 2, List.mem_filter.mpr ⟨List.mem_range.mpr (by omega), ?_⟩, by omega⟩
        rw [show 2 + (pn - 2) = pn by omega, hpe, rem_self p p0, Kd.num0]
        simp [inV, eqV]
      rw [z] at hm; cases hm
    have dlen : ((divL p).map (fun n : Nat => D.int (n : Nat))).length ≤ 1000 := by
      rw [List.length_map]; unfold divL; rw [List.length_map]
      exact Nat.le_trans (List.length_filter_le _ _) (by decide)
    refine ru_cons (ru_setLc 6 (lcH_N (List.range (1 + un)) (fun i => .int (i : Nat)) false [("spin", 18)] (fun i => [some (.ptr pa), some (.str (Kd.kind R)), some (nI R p), some (.lst ((divL p).map fun n : Nat => D.int (n : Nat))), some (.lst (ns.map .str)), some (.int (1 + (un : Nat))), none, none, none, none, none, none, none, none, none, none, none, none, some (.int (i : Nat)), none, none, none, none]) [18] (fun i acc T' => ∃ bs0 : List (Bal R), acc = bs0.map (bD R) ∧ bs0.length = i ∧ T' = prT TB pa (n + 150 + 2050 * i) ∧ ∀ b ∈ bs0, (∃ m ∈ divL p, b.by_ = Kd.of m) ∧ BalOk b ∧ ∀ t ∈ b.terms, t.1 ∈ ns) rfl sc_right.nd (evi_rangeN fr.range (ev_is (ev_n 5) rfl) (by omega)) rfl (by rw [List.length_range]; omega) (by simp) ⟨[], rfl, rfl, rfl, fun b h => nomatch h⟩ (fun i acc T' ⟨bs0, _, _, eT, _⟩ a => by rw [eT]; exact dom_pr pa _ _ a) (fun x m s H C cl fp => evg_n 18 sc_right.nd) (fun i x acc T' hx ⟨bs0, ea, el, eT, hb⟩ => ⟨true, fun s H C cl fp => evts_nil, fun _ s H C cl fp => ?_, nofun⟩) (fun acc T' ⟨bs0, ea, el, eT, hb⟩ => ?_)))
    · subst eT ea
      have hi : i < 2 := by
        have := (List.getElem?_eq_some_iff.mp hx).1
        rw [List.length_range] at this
        omega
      refine evn_lbal (ns := ns) to F3 hp hr (evna_cons (evn_of (ev_n 0) (evna_cons (evn_of (ev_n 1) (evna_cons (evn_of (ev_n 4) (evna_cons (evn_one (xs := (divL p).map fun n : Nat => D.int (n : Nat)) to F1 (le0 _) hp tset_same hr (eva_cons (ev_n 0) (eva_cons (ev_n 3) eva_nil)) dpos dlen (by omega) fun d hd => ?_))))))))
      obtain ⟨m, hm, rfl, m2, m12⟩ := dv d hd
      rw [tset_tset]
      refine evna_of (eva_cons ev_int (eva_cons ev_non eva_nil)) ⟨_, Kd.of m, rfl, le0 _, tset_same, nmok, by omega, by rw [Kd.num_of]; omega, Nat.le_trans (ofb m m12) (by decide), by omega, fun b b1 b2 b3 => ?_⟩
      refine ⟨bs0 ++ [b], by rw [List.map_append]; rfl, by rw [List.length_append, el]; rfl, ?_, fun b' hb' => ?_⟩
      · rw [tset_tset, show n + 150 + 2050 * i + 50 + 2000 = n + 150 + 2050 * (i + 1) by omega]
      · rcases List.mem_append.mp hb' with h | h
        · exact hb b' h
        · simp only [List.mem_singleton] at h
          subst h
          exact ⟨⟨m, hm, b1⟩, b2, b3⟩
    show if false = true then _ else _
    rw [if_neg (by decide)]
    intro q hq
    subst ea eT
    rw [List.length_range] at el hq ⊢
    have hqp : q ≠ pa := fun z => by rw [z, show prT TB pa (n + 150 + 2050 * (1 + un)) pa = some (.prs _) from tset_same] at hq; cases hq
    have hqT : TB q = none := by rw [show prT TB pa (n + 150 + 2050 * (1 + un)) q = TB q from tset_ne hqp] at hq; exact hq
    rw [show tset (prT TB pa (n + 150 + 2050 * (1 + un))) q (.lst (bs0.map (bD R))) = prQ TB q (.lst (bs0.map (bD R))) pa (n + 150 + 2050 * (1 + un)) from tset_comm hqp.symm]
    have hTq : ∀ c n, prQ TB q c pa n q = some c := fun c n => by unfold prQ; rw [tset_ne hqp, tset_same]
    -- the last one
    have lst : bD R ⟨ns.map fun n => (n, (1 : R)), 0, p⟩ = .tup [.lst (ns.map fun n => D.tup [.str n, .int 1]), .int 0, nI R p] := by
      unfold bD tsD
      rw [List.map_map]
      show D.tup [.lst (ns.map fun n => D.tup [.str n, nI R 1]), nI R 0, nI R p] = _
      unfold nI
      rw [Kd.num1, Kd.num0]
    refine ru_cons (ru_app (ev_n 6) (hTq _ _) (d := bD R ⟨ns.map fun n => (n, (1 : R)), 0, p⟩) (ev_is (ev_tup (eva_cons (ev_lcA ns D.str (fun n => D.tup [.str n, .int 1]) [("name", 7)] _ [7] rfl sc_right.nd (evi_list (ev_n 4)) rfl (by omega) (by simp) (fun x m s H C cl fp => evg_n 7 sc_right.nd) (fun x m s H C cl fp => ev_tup (eva_cons (ev_n 7) (eva_cons ev_int eva_nil)))) (eva_cons ev_int (eva_cons (ev_n 2) eva_nil)))) lst.symm) (by rw [List.length_map]; omega) ?_)
    refine ru_freeze 6 rfl tset_same ?_
    have etd : tdel (tset (prQ TB q (.lst (bs0.map (bD R))) pa (n + 150 + 2050 * (1 + un))) q (.lst (bs0.map (bD R) ++ [bD R ⟨ns.map fun n => (n, (1 : R)), 0, p⟩]))) q = prT TB pa (n + 150 + 2050 * (1 + un)) := by
      rw [prQ_set hqp]
      exact tdel_comm hqp.symm hqT
    rw [etd]
    generalize hbs : bs0 ++ [⟨ns.map fun n => (n, (1 : R)), 0, p⟩] = bs
    have ebs : bs0.map (bD R) ++ [bD R ⟨ns.map fun n => (n, (1 : R)), 0, p⟩] = bs.map (bD R) := by rw [← hbs, List.map_append]; rfl
    rw [ebs]
    have hD : Drawn bs p ns := ⟨⟨pn, hpn, hpe.symm⟩, ⟨jn, by omega, hns.symm⟩, ⟨bs0, by omega, by omega, hbs.symm, hb⟩⟩
    obtain ⟨S, okT, M⟩ := hM bs p ns hD
    have bsl : bs.length ≤ 3 := by rw [← hbs, List.length_append, el]; simp; omega
    have bysOk : ∀ b ∈ bs, 0 < Kd.num b.by_ ∧ Kd.num b.by_ ≤ 12 := fun b hm => by
      rw [← hbs] at hm
      rcases List.mem_append.mp hm with h | h
      · obtain ⟨⟨m, hm, e⟩, _⟩ := hb b h
        obtain ⟨m', _, e2, a1, a2⟩ := dv (D.int (m : Nat)) (List.mem_map_of_mem hm)
        rw [e]
        have e3 : (m : Int) = Kd.num (Kd.of m' : R) := D.int.inj e2
        rw [Kd.num_of] at e3 ⊢
        omega
      · simp only [List.mem_singleton] at h
        subst h
        show 0 < Kd.num p ∧ Kd.num p ≤ 12
        omega
    clear hb hbs ebs
    -- bys, whole
    refine ru_cons (ru_parN rfl sc_right.nd (i := 8) (j := 9) (by decide) (evna_of (eva_cons (d := .lst ((bs.map fun b => b.by_).map (nI R))) (ev_is (ev_lcA bs (bD R) (fun b => nI R b.by_) [("balance", 19)] _ [19] rfl sc_right.nd (evi_list (ev_n 6)) rfl (by omega) (by simp) (fun x m s H C cl fp => evg_n 19 sc_right.nd) (fun b m s H C cl fp => ev_ixT (ev_n 19) ev_int rfl)) (by rw [List.map_map]; rfl)) (eva_cons ev_int eva_nil)) ⟨_, _, rfl, ?_⟩))
    have szp := KdS.sz p p0
    have szp6 : Kd.size p ≤ 6 := by omega
    have wholeLt : ∀ i, i ≤ 4 → Kd.size p ^ i ≤ 6 ^ 4 := fun i hi => Nat.le_trans (Nat.pow_le_pow_left szp6 i) (Nat.pow_le_pow_right (by decide) hi)
    refine ru_cons (ru_for (fun i ρ T => T = prT TB pa (n + 150 + 2050 * (1 + un)) ∧ ∃ v7 : Option D, ρ = [some (.ptr pa), some (.str (Kd.kind R)), some (nI R p), some (.lst ((divL p).map fun n : Nat => D.int (n : Nat))), some (.lst (ns.map .str)), some (.int (1 + (un : Nat))), some (.lst (bs.map (bD R))), v7, some (.lst ((bs.map fun b => b.by_).map (nI R))), some (.int ((Kd.size p ^ i : Nat) : Int)), none, none, none, none, none, none, none, none, none, none, none, none, none]) ⟨rfl, none, rfl⟩ PassesOwn.never rfl (evi_list (ds := ns.map D.str) (ev_n 4)) (fun i d ρ T hd ⟨eT, v7, eρ⟩ => ?_) ?_)
    · subst eT eρ
      have hi : i < 4 := by
        have := (List.getElem?_eq_some_iff.mp hd).1
        rw [List.length_map] at this
        omega
      have w1 := wholeLt i (by omega)
      have w2 : bl (Kd.size p ^ i) ≤ 11 := bl_le (Nat.lt_of_le_of_lt w1 (by decide))
      have w3 : bl (Kd.size p) ≤ 3 := bl_le (Nat.lt_of_le_of_lt szp6 (by decide))
      refine ⟨_, _, evg_n 7 sc_right.nd, ru_one (ru_set 9 sc_right.nd (ev_mul (ev_n 9) (ev_call F5 (le0 _) hr (eva_cons (ev_n 1) (eva_cons (ev_n 2) eva_nil)) ⟨p, rfl, p0, Nat.le_trans pb (by decide), rfl⟩) ?_) ⟨rfl, some d, ?_⟩)⟩
      · unfold CMulX
        rw [show Builtin.Int.intBits ((Kd.size p ^ i : Nat) : Int) = bl (Kd.size p ^ i) from bits_nat _, show Builtin.Int.intBits ((Kd.size p : Nat) : Int) = bl (Kd.size p) from bits_nat _]
        omega
      · rw [Nat.pow_succ, Int.natCast_mul]; rfl
    rintro ρ T ⟨eT, v7, eρ⟩
    subst eT eρ
    rw [List.length_map]
    -- how many keep noughts
    have z0 := M.zero.many
    rw [if_pos rfl] at z0
    refine ru_cons (ru_set 10 sc_right.nd (ev_call F6 (le0 _) hr (eva_cons (d := scD R (noT bs)) (ev_is (ev_tup (eva_cons (ev_n 1) (eva_cons (ev_lcA bs (bD R) (fun b => bD R ⟨b.terms, 0, b.by_⟩) [("terms", 20), ("total", 21), ("by", 17)] _ [20, 21, 17] rfl sc_right.nd (evi_list (ev_n 6)) rfl (by omega) (by simp) (fun x m s H C cl fp => evg_tup rfl (evgs_cons (evg_n 20 sc_right.nd) (evgs_cons (evg_n 21 sc_right.nd) (evgs_cons (evg_n 17 sc_right.nd) evgs_nil)))) (fun b m s H C cl fp => ev_tup (eva_cons (ev_n 20) (eva_cons (ev_is ev_int (by unfold nI; rw [Kd.num0])) (eva_cons (ev_n 17) eva_nil))))) eva_nil))) (by unfold scD noT; rw [List.map_map]; rfl)) (eva_cons (ev_n 2) eva_nil)) z0.1) ?_)
    have szs : ∀ b ∈ bs, Kd.size b.by_ ≤ 12 := fun b hm => by
      have h1 := bysOk b hm
      have h2 := KdS.sz b.by_ h1.1
      omega
    have prs : ∀ i, prodN ((sizes bs).take i) ≤ 100000 := fun i => by
      have h1 := prodN_le ((sizes bs).take i) 12 fun m hm => by
        obtain ⟨b, hb, rfl⟩ := List.mem_map.mp (List.mem_of_mem_take hm)
        exact szs b hb
      have h2 : ((sizes bs).take i).length ≤ 3 := by unfold sizes; rw [List.length_take, List.length_map]; omega
      exact Nat.le_trans h1 (Nat.le_trans (Nat.pow_le_pow_right (by decide) h2) (by decide))
    have esz : (bs.map fun b => b.by_).map Kd.size = sizes bs := by unfold sizes; rw [List.map_map]; rfl
    refine ru_cons (ru_par3N rfl sc_right.nd (i := 11) (j := 12) (l := 13) (by decide) (by decide) (by decide) (evna_of (eva_cons ev_int (eva_cons ev_int (eva_cons (ev_call F7 (le0 _) hr (eva_cons (ev_n 1) (eva_cons (ev_n 8) eva_nil)) ⟨bs.map fun b => b.by_, rfl, fun y hy => ?_, fun i => by rw [esz]; exact prs i, by rw [List.length_map]; omega, rfl⟩) eva_nil))) ⟨_, _, _, rfl, ?_⟩))
    · obtain ⟨b, hb, rfl⟩ := List.mem_map.mp hy
      have h1 := bysOk b hb
      refine ⟨h1.1, Nat.le_trans (sm_abs (m := 4) (by omega) (by omega)) (by decide), Nat.le_trans (szs b hb) (by decide)⟩
    rw [esz]
    have totl : (totT (sizes bs)).length ≤ 100000 := by
      rw [totT_len]
      have := prs (sizes bs).length
      rwa [List.take_length] at this
    have okl : ∀ i, (((totT (sizes bs)).take i).filter okT).length ≤ 100000 := fun i => Nat.le_trans (List.length_filter_le _ _) (by rw [List.length_take]; omega)
    refine ru_cons (ru_for (fun i ρ T => T = prT TB pa (n + 150 + 2050 * (1 + un)) ∧ ∃ v14 v15 v16 : Option D, ρ = [some (.ptr pa), some (.str (Kd.kind R)), some (nI R p), some (.lst ((divL p).map fun n : Nat => D.int (n : Nat))), some (.lst (ns.map .str)), some (.int (1 + (un : Nat))), some (.lst (bs.map (bD R))), v7, some (.lst ((bs.map fun b => b.by_).map (nI R))), some (.int ((Kd.size p ^ ns.length : Nat) : Int)), some (.int (S : Nat)), some (.int ((((((totT (sizes bs)).take i).filter okT).length * S : Nat)) : Int)), some (.int (((((totT (sizes bs)).take i).filter okT).length : Nat) : Int)), some (.lst ((totT (sizes bs)).map nD)), v14, v15, v16, none, none, none, none, none, none]) ⟨rfl, none, none, none, by simp⟩ PassesOwn.never rfl (evi_list (ev_n 13)) (fun i d ρ T hd ⟨eT, v14, v15, v16, eρ⟩ => ?_) ?_)
    · subst eT eρ
      rw [List.getElem?_map] at hd
      cases z : (totT (sizes bs))[i]? with
      | none => rw [z] at hd; cases hd
      | some t =>
        rw [z] at hd
        cases (Option.some.inj hd)
        have tm := List.mem_of_getElem? z
        obtain ⟨c1, c2⟩ := (M.all t tm).many
        have bfew : (bs.zip t).length ≤ 1000000 := by rw [List.length_zip]; omega
        refine ⟨_, _, evg_n 14 sc_right.nd, ?_⟩
        refine ru_cons (ru_set 15 sc_right.nd (d := scD R (withT bs t)) (ev_is (ev_tup (eva_cons (ev_n 1) (eva_cons (ev_lcA (bs.zip t) (fun q => .tup [bD R q.1, nI R (Kd.of q.2)]) (fun q => bD R ⟨q.1.terms, Kd.of q.2, q.1.by_⟩) [("terms", 20), ("old", 22), ("by", 17), ("total", 21)] _ [20, 22, 17, 21] rfl sc_right.nd (zip_nat bs t ▸ evi_zip fr.zip (ev_n 6) (ev_n 14)) rfl bfew (by simp) (fun x m s H C cl fp => evg_tup rfl (evgs_cons (evg_tup rfl (evgs_cons (evg_n 20 sc_right.nd) (evgs_cons (evg_n 22 sc_right.nd) (evgs_cons (evg_n 17 sc_right.nd) evgs_nil)))) (evgs_cons (evg_n 21 sc_right.nd) evgs_nil))) (fun q m s H C cl fp => ev_tup (eva_cons (ev_n 20) (eva_cons (ev_n 21) (eva_cons (ev_n 17) eva_nil))))) eva_nil))) (by unfold scD withT; rw [zw, List.map_map]; rfl)) ?_)
        refine ru_cons (ru_set 16 sc_right.nd (ev_call F6 (le0 _) hr (eva_cons (ev_n 15) (eva_cons (ev_n 2) eva_nil)) c1) ?_)
        have spos := M.pos
        have cpos : decide ((0 : Int) < (if okT t = true then (S : Int) else 0)) = okT t := by
          cases okT t
          · rfl
          · rw [if_pos rfl]; exact decide_eq_true (by omega)
        refine ru_cons (ru_if (k := false) (evT_w (evT_is' (evW_or (k := false) (l := false) (evT_is (evT_nin (ev_n 16) (ev_lst (eva_cons ev_int (eva_cons (ev_n 10) eva_nil)))) (by cases okT t <;> simp [inV, eqV])) fun _ => evW_or1 (evT_is (evT_not (k := true) (evT_val (ev_is (ev_call F8 (le0 _) hr (eva_cons (ev_gt (ev_n 16) ev_int) (eva_cons (ev_call F10 (le0 _) hr (eva_cons (ev_n 15) eva_nil) c2) eva_nil)) ⟨_, _, rfl, rfl⟩) (by rw [cpos, decide_eq_true rfl])))) rfl)) rfl)) nofun fun _ => ru_nil ?_)
        have ef : ((totT (sizes bs)).take (i + 1)).filter okT = ((totT (sizes bs)).take i).filter okT ++ (if okT t = true then [t] else []) := by
          rw [List.take_add_one, z, List.filter_append]
          simp only [Option.toList, List.filter_cons, List.filter_nil]
        refine ru_one (ru_par rfl sc_right.nd (i := 11) (j := 12) (by decide) (eva_cons (ev_add (ev_n 11) (ev_n 16)) (eva_cons (ev_add (ev_n 12) (ev_intB fr.int (ev_gt (ev_n 16) ev_int))) eva_nil)) ⟨rfl, some (nD t), some (scD R (withT bs t)), some (.int (if okT t = true then (S : Int) else 0)), ?_⟩)
        show [_, _, _, _, _, _, _, _, _, _, _, _, _, _, _, _, _, _, _, _, _, _, _] = _
        rw [cpos, ef]
        cases okT t
        · simp
        · simp [Nat.add_mul]
    rintro ρ T ⟨eT, v14, v15, v16, eρ⟩
    subst eT eρ
    rw [List.length_map, List.take_length]
    have sum := M.sum
    have ml := okl (totT (sizes bs)).length
    rw [List.take_length] at ml
    refine ru_more (m := n + 10000) tset_same (by omega) ?_
    rw [tset_tset]
    refine ru_one (ru_ret (d := .bl true) (ev_is (ev_call F9 (le0 _) hr (eva_cons (d := .lst [.int _, .int _]) (ev_lst (eva_cons (ev_n 9) (eva_cons (ev_n 9) eva_nil))) (eva_cons (d := .lst [.int _, .int _]) (ev_lst (eva_cons (ev_n 11) (eva_cons (ev_mul (i := (((((totT (sizes bs)).filter okT).length : Nat)) : Int)) (j := ((S : Nat) : Int)) (ev_n 12) (ev_n 10) ?_) eva_nil))) eva_nil)) ⟨[((Kd.size p ^ ns.length : Nat) : Int), ((Kd.size p ^ ns.length : Nat) : Int)], [(((((totT (sizes bs)).filter okT).length * S : Nat)) : Int), (((((totT (sizes bs)).filter okT).length : Nat)) : Int) * ((S : Nat) : Int)], rfl, rfl, by simp, rfl⟩) ?_) ⟨rfl, rfl⟩)
    · unfold CMulX
      rw [show Builtin.Int.intBits (((((totT (sizes bs)).filter okT).length : Nat)) : Int) = bl ((totT (sizes bs)).filter okT).length from bits_nat _, show Builtin.Int.intBits ((S : Nat) : Int) = bl S from bits_nat _]
      have b1 : bl ((totT (sizes bs)).filter okT).length ≤ 17 := bl_le (Nat.lt_of_le_of_lt ml (by decide))
      have b2 : bl S ≤ 100000 := bl_le M.big
      omega
    · rw [sum]
      have e : (((((totT (sizes bs)).filter okT).length : Nat) : Int) * ((S : Nat) : Int)) = ((Kd.size p ^ ns.length : Nat) : Int) := by rw [← sum, Int.natCast_mul]
      rw [e]
      simp
end
end PU
set_option Elab.async false
set_option linter.all false
set_option maxRecDepth 100000
set_option maxHeartbeats 4000000
/-! W20: the law. -/
namespace PU
open PySem PySem.Spec PyProof.Rows L2 LamX
section
variable {X : Cx} {e1 e2 : Expr} {ρ : Rho} {T TB : Th} {pos p : Pos} {k : Nat} {Post : D → Th → Prop} {R : Type} [Kd R]
theorem evn_right {pa : Addr} {n : Nat} (to : TabOnly TB) (F : Dn X.prog X.w X.K X.mg X.base k "_law_right" (sRight R TB)) (le : Le TB T) (hp : TB pa = none) (hT : T pa = some (.prs n)) (hr : Room k X.A) (ha : EvA X [e1, e2] ρ T [.ptr pa, .str (Kd.kind R)]) (hn : n ≤ 10000000)
    (h : Post (.bl true) (tset T pa (.prs (n + 10000)))) (hg : Gl X "_law_right" := by rfl) (he : starEach [e1, e2] X.env = (false, eval e1 X.env) :: starEach [e2] X.env := by rfl) (hpl : (backTo pos (starEach [e2] X.env)).any (·.1) = false := by rfl) : EvN X (.Call (.Name "_law_right" p) [e1, e2] [] pos) ρ T Post :=
  evn_call F hr (evna_of ha ⟨prT TB pa n, _, ⟨pa, n, rfl, hp, rfl, hn, rfl⟩, noObj_pr to pa n, fun d T' ⟨_, e⟩ => by subst e; exact ⟨noObj_pr to pa _, fun a => dom_pr pa _ _ a⟩, le_pr le hT, fun d T' ⟨e1, e2⟩ => by
    subst e1 e2
    rw [over_tset le]
    exact h⟩) hg (by decide) he hpl
theorem tset_id {T : Th} {q : Addr} {c : D} (h : T q = some c) : tset T q c = T := by
  funext b
  unfold PU.tset
  split
  · rename_i e; rw [e, h]
  · rfl
end
/-! ### purses that a list holds are taken out of it -/
def extOf (H : Hp) : Hp := fun b => match H b with
  | some (.ext f) => some (.ext f)
  | _ => none
theorem extOf_some {H : Hp} {b : Addr} {o : HO} (h : extOf H b = some o) : H b = some o := by
  unfold extOf at h
  split at h
  · rename_i f e; rw [e]; exact h
  · cases h
theorem extOf_lst {H : Hp} {b : Addr} {xs : List V} (h : H b = some (.lst xs)) : extOf H b = none := by
  unfold extOf; rw [h]
theorem extOf_none {H : Hp} {b : Addr} (h : H b = none) : extOf H b = none := by
  unfold extOf; rw [h]
open Classical in
noncomputable def restQ (TB : Th) (Hf H : Hp) (qs : List Addr) : Hp := fun b => if b ∈ qs ∨ TB b ≠ none ∨ extOf Hf b ≠ none then none else H b
open Classical in
noncomputable def prQs (TB : Th) (qs : List Addr) : Th := fun b => if b ∈ qs then some (.prs 0) else TB b
theorem Wd.thaw {K : Fg} {Hf Hr H : Hp} {TB : Th} (w : Wd K Hf Hr H TB) (to : TabOnly TB) (qs : List Addr) (hq : ∀ q ∈ qs, ∃ xs, Hf q = some (.lst xs) ∧ Purse 0 xs) : Wd K (extOf Hf) (restQ TB Hf H qs) H (prQs TB qs) := by
  refine ⟨fun a o h => w.f _ _ (extOf_some h), fun a o h => ?_, fun a o h => ?_, fun a c h => ?_, fun a c h => ?_, fun a C fs ds h => ?_⟩
  · unfold restQ at h
    split at h
    · cases h
    · exact h
  · unfold restQ
    rw [if_pos (.inr (.inr (by rw [h]; exact fun z => nomatch z)))]
  · unfold prQs at h
    split at h
    · rename_i m
      obtain ⟨xs, h1, _⟩ := hq a m
      exact ⟨extOf_lst h1, by unfold restQ; rw [if_pos (.inl m)]⟩
    · exact ⟨extOf_none (w.tf a c h).1, by unfold restQ; rw [if_pos (.inr (.inl (by rw [h]; exact fun z => nomatch z)))]⟩
  · unfold prQs at h
    split at h
    · rename_i m
      cases h
      obtain ⟨xs, h1, h2⟩ := hq a m
      simp only [Own]
      exact ⟨xs, w.f _ _ h1, h2⟩
    · obtain ⟨q, rfl⟩ := to _ _ h
      have o1 := w.to _ _ h
      simp only [Own] at o1 ⊢
      obtain ⟨ps, h1, h2, h3⟩ := o1
      refine ⟨ps, h1, h2, fun pos cv z => ?_⟩
      obtain ⟨c, e1, e2⟩ := h3 pos cv z
      refine ⟨c, e1, ?_⟩
      unfold extOf
      rw [e2]; rfl
  · unfold prQs at h
    split at h
    · cases h
    · obtain ⟨q, z⟩ := to _ _ h; cases z
/-- the list's items, as addresses -/
theorem refs_of {K : Fg} {Hf : Hp} : ∀ {ds : List (List Int)} {vs : List V}, IsL K Hf (ds.map fun ns => .lst (ns.map .int)) vs → ∃ qs : List Addr, vs = qs.map V.ref ∧ ∀ q ∈ qs, ∃ ns ∈ ds, Hf q = some (.lst (ns.map V.int))
  | [], vs, h => by
    simp only [List.map_nil, IsL] at h
    subst h
    exact ⟨[], rfl, fun _ h => nomatch h⟩
  | d :: ds, vs, h => by
    simp only [List.map_cons, IsL] at h
    obtain ⟨v, r, rfl, i1, i2⟩ := h
    obtain ⟨q, xs, rfl, hq, l⟩ := is_lst.mp i1
    obtain ⟨qs, rfl, hqs⟩ := refs_of i2
    rw [IsL.ints l] at hq
    refine ⟨q :: qs, rfl, fun q' hm => ?_⟩
    rcases List.mem_cons.mp hm with rfl | hm
    · exact ⟨d, List.mem_cons_self, hq⟩
    · obtain ⟨ns, h1, h2⟩ := hqs q' hm
      exact ⟨ns, List.mem_cons_of_mem _ h1, h2⟩
def spLaw98 (K : Fg) (TB : Th) : Sp := fun vs H Q _ => ∃ (a : Addr) (ns : List Int), vs = [.ref a] ∧ SqL K H a (ns.map V.int) ∧ ns.length ≤ 63 ∧ (∀ b c, TB b = some c → H b = some (.tbl #[])) ∧ ∀ H', Q (.bl true) H'
theorem start_w {K : Fg} {TB : Th} {H : Hp} {a : Addr} {ns : List Int} (to : TabOnly TB) (hS : SqL K H a (ns.map V.int)) (hT : ∀ b c, TB b = some c → H b = some (.tbl #[])) : ∃ Hf Hr, Wd K Hf Hr H TB ∧ Is K Hf (.scr (ns.map .int)) (.ref a) := by
  classical
  refine ⟨fun b => if b = a ∧ TB a = none then H b else none, fun _ => none, ⟨fun b o h => ?_, (fun _ _ h => nomatch h), fun _ _ _ => rfl, fun b c h => ⟨?_, rfl⟩, fun b c h => ?_, fun b C fs ds h => ?_⟩, is_scr.mpr ⟨a, ns.map V.int, rfl, ?_, IsL.of_ints ns⟩⟩
  · split at h
    · exact h
    · cases h
  · show (if b = a ∧ TB a = none then H b else none) = none
    rw [if_neg]
    rintro ⟨rfl, z⟩
    rw [z] at h; cases h
  · obtain ⟨q, rfl⟩ := to _ _ h
    simp only [Own]
    refine ⟨#[], hT _ _ h, ?_, fun pos cv z => ?_⟩
    · exact True.intro
    · simp [codeAmong] at z
  · obtain ⟨q, z⟩ := to _ _ h; cases z
  · rcases hS with h | h
    · refine .inl ?_
      have hn : TB a = none := by
        cases z : TB a with
        | none => rfl
        | some c =>
          have e := hT a c z
          rcases h with h | ⟨o, h⟩
          · rw [h] at e; cases e
          · rw [h] at e; cases e
      rcases h with h | ⟨o, h⟩
      · exact .inl (by show (if a = a ∧ TB a = none then H a else none) = _; rw [if_pos ⟨rfl, hn⟩]; exact h)
      · exact .inr ⟨o, by show (if a = a ∧ TB a = none then H a else none) = _; rw [if_pos ⟨rfl, hn⟩]; exact h⟩
    · exact .inr h

section
variable {P : Program} {w : World} {K : Fg} {mg : Str → Option Value} {base : Heap} {TB : Th}
abbrev klaw : List Str := ["script", "purse", "kind"]
theorem sc_law : FnScope klaw ["script"] (defScope (top 77)) := ⟨rfl, rfl, rfl, by decide +kernel, rfl, by decide +kernel, by decide +kernel⟩
theorem w_law {f : Addr} {fd : FuncData} {k : Nat} (to : TabOnly TB) (F : Fun K "law" "law" (top 77) f fd) (F1 : Df P w K mg base TB k "_law_purses" sPurses) (F2 : Dn P w K mg base k "_law_right" (sRight Int TB)) (F3 : Dn P w K mg base k "_law_right" (sRight Pol TB)) : FnOk P w K mg base CX0 (k + 1) f fd ["script"] (spLaw98 K TB) := by
  refine F.ok sc_law (fun vs H Q E h => ?_) (fun cdv A outer s H vs Q E hr h => ?_)
  · obtain ⟨a, ns, rfl, _⟩ := h
    rfl
  obtain ⟨a, ns, rfl, hS, hl, hT, hQ⟩ := h
  have nd := sc_law.nd
  refine ⟨_, pss_cons (ps_for PassesOwn.never rfl (pi_list (ev_call (ρ := [some (.scr (ns.map .int)), none, none]) (T := TB) (d := .lst ((List.range (max 1 (min 3 ns.length))).map fun i => purD ns i)) F1 (Le.refl _) hr (eva_cons (ev_n 0) (eva_cons ev_int eva_nil)) ⟨ns, rfl, hl, rfl⟩)) (pg_name (i := 1) nd rfl (Or.inl rfl)) (pss_wS)) (pss_one (ps_ret pe_bl)), ?_⟩
  obtain ⟨Hf, Hr, wd, isS⟩ := start_w to hS hT
  refine ⟨Hf, Hr, wd, ⟨rfl, fun j d q => ?_⟩, fun v H2 Hf2 e2 w2 i2 => ?_⟩
  · match j, q with
    | 0, q => cases q; exact ⟨_, rfl, isS⟩
    | 1, q => cases q
    | 2, q => cases q
    | j + 3, q => simp at q
  obtain ⟨l, vs, rfl, hlv, il⟩ := is_lst.mp i2
  have hk : 1 ≤ max 1 (min 3 ns.length) ∧ max 1 (min 3 ns.length) ≤ 3 := by omega
  generalize hkk : max 1 (min 3 ns.length) = kk at hk il
  have il' : IsL K Hf2 (((List.range kk).map fun i => [purU (seedOf ns i), purV (seedOf ns i), 0, (i : Int)]).map fun ns => .lst (ns.map .int)) vs := by
    rw [List.map_map]; exact il
  obtain ⟨qs, rfl, hqs⟩ := refs_of il'
  have hq : ∀ q ∈ qs, ∃ xs, Hf2 q = some (.lst xs) ∧ Purse 0 xs := fun q hm => by
    obtain ⟨z, hz, e⟩ := hqs q hm
    obtain ⟨i, hi, rfl⟩ := List.mem_map.mp hz
    have hi' := List.mem_range.mp hi
    have ok := pur_ok ns (at_ := i) (by omega)
    exact ⟨_, e, _, _, _, _, rfl, ok.1, ok.2.1, ok.2.2.1, ok.2.2.2, by decide, by decide, by omega, by omega⟩
  have w3 := w2.thaw to qs hq
  have qlen : qs.length = kk := by
    have := il.len
    rw [List.length_map, List.length_range, List.length_map] at this
    exact this.symm
  have lq : l ∉ qs := fun m => by
    obtain ⟨xs, h1, u, v, c, d, h2, _⟩ := hq l m
    rw [hlv] at h1
    cases h1
    cases qs with
    | nil => cases m
    | cons q qs => simp at h2
  have lT : TB l = none := by
    cases z : TB l with
    | none => rfl
    | some c => have := (w2.tf l c z).1; rw [hlv] at this; cases this
  have hrl : restQ TB Hf2 H2 qs l = some (.lst (qs.map V.ref)) := by
    unfold restQ
    rw [if_neg, w2.f _ _ hlv]
    rintro (h | h | h)
    · exact lq h
    · exact h lT
    · exact h (extOf_lst hlv)
  have qT : ∀ q ∈ qs, TB q = none := fun q m => by
    obtain ⟨xs, h1, _⟩ := hq q m
    cases z : TB q with
    | none => rfl
    | some c => have := (w2.tf q c z).1; rw [h1] at this; cases this
  refine ⟨l, rfl, ⟨_, SqL.of (w2.f _ _ hlv)⟩, for_list (K := K) (a := l) (xs := qs.map V.ref) (fun i σ H' => ∃ Hf' T', σ.length = 3 ∧ Wd K Hf' (restQ TB Hf2 H2 qs) H' T' ∧ Le TB T' ∧ ∀ q ∈ qs, ∃ m, m ≤ 20000 * i ∧ T' q = some (.prs m)) ⟨_, _, rfl, w3, ?_, fun q m => ⟨0, Nat.le_refl _, ?_⟩⟩ (fun i σ H' _ ⟨Hf', T', _, w', _⟩ => SqL.of (w'.r _ _ hrl)) ?_ (fun σ H' _ => hQ _)⟩
  · intro b c e
    unfold prQs
    rw [if_neg (fun m => by rw [qT b m] at e; cases e)]
    exact e
  · unfold prQs; rw [if_pos m]
  · rintro i x σ H' hx ⟨Hf', T', hsl, w', le', hm⟩
    rw [List.getElem?_map] at hx
    cases z : qs[i]? with
    | none => rw [z] at hx; cases hx
    | some q =>
      rw [z] at hx
      cases (Option.some.inj hx)
      have hqm := List.mem_of_getElem? z
      have hi : i < 3 := by
        have := (List.getElem?_eq_some_iff.mp z).1
        omega
      obtain ⟨m, hm1, hm2⟩ := hm q hqm
      have key : Ru (BodyX P w K mg base klaw "law" (top 77) f cdv A outer s H E) (match (defBody (top 77)).getD 0 (.Pass ⟨0, 0, 0, 0⟩) with
          | .For _ _ b _ _ => b
          | _ => []) [none, some (.ptr q), none] T' { nx := fun ρ T => ∃ v, ρ = [none, some (.ptr q), v] ∧ T = tset T' q (.prs (m + 20000)), rt := fun _ _ => False } := by
        refine ru_one (ru_for (fun j ρ T => T = tset T' q (.prs (m + 10000 * j)) ∧ ∃ v : Option D, ρ = [none, some (.ptr q), v]) ⟨(tset_id hm2).symm, none, rfl⟩ PassesOwn.never rfl (evi_list (ds := [.str (Kd.kind Int), .str (Kd.kind Pol)]) (ev_lst (eva_cons ev_str (eva_cons ev_str eva_nil)))) (fun j d ρ T hd ⟨eT, v, eρ⟩ => ?_) ?_)
        · subst eT eρ
          refine ⟨_, _, evg_n 2 nd, ?_⟩
          match j, hd with
          | 0, hd =>
            cases hd
            exact ru_one (ru_ifN (evtn_not (evtn_val (evn_right (R := Int) to F2 (le_set le' (qT q hqm)) (qT q hqm) tset_same hr (eva_cons (ev_n 1) (eva_cons (ev_n 2) eva_nil)) (by omega) ⟨true, rfl, nofun, fun _ => ru_nil ⟨by rw [tset_tset], some (.str (Kd.kind Int)), rfl⟩⟩))))
          | 1, hd =>
            cases hd
            exact ru_one (ru_ifN (evtn_not (evtn_val (evn_right (R := Pol) to F3 (le_set le' (qT q hqm)) (qT q hqm) tset_same hr (eva_cons (ev_n 1) (eva_cons (ev_n 2) eva_nil)) (by omega) ⟨true, rfl, nofun, fun _ => ru_nil ⟨by rw [tset_tset], some (.str (Kd.kind Pol)), rfl⟩⟩))))
          | j + 2, hd => simp at hd
        · rintro ρ T ⟨eT, v, eρ⟩
          exact ⟨v, eρ, eT⟩
      intro pins s' I
      refine key.run pins s' _ H' _ I ⟨Hf', _, w', ⟨by rw [List.length_set]; exact hsl, fun j d q' => ?_⟩, ?_⟩
      · match j, q' with
        | 0, q' => cases q'
        | 1, q' =>
          cases q'
          refine ⟨.ref q, ?_, is_ptr.mpr rfl⟩
          rw [List.getElem?_set_self (by omega)]
        | 2, q' => cases q'
        | j + 3, q' => simp at q'
      · refine ⟨fun ρ' T2 σ' H2' Hf2' ⟨v, eρ, eT⟩ e' w4 en' => ⟨Hf2', T2, ?_, w4, ?_, fun q2 hq2 => ?_⟩, fun _ _ _ _ _ z => z.elim, fun _ _ _ _ _ z => z.elim, fun _ _ _ _ _ z => z.elim⟩
        · rw [en'.len, eρ]; rfl
        · subst eT
          exact le_set le' (qT q hqm)
        · subst eT
          by_cases e : q2 = q
          · subst e
            exact ⟨m + 20000, by omega, tset_same⟩
          · obtain ⟨m2, a1, a2⟩ := hm q2 hq2
            exact ⟨m2, by omega, by rw [tset_ne e]; exact a2⟩
end
end PU
set_option Elab.async false
set_option linter.all false
set_option maxRecDepth 100000
/-! M1: what both kinds have besides; spans of rows. -/
namespace PU
open PySem PySem.Spec PyProof.Rows L2
class KdM (R : Type) [Kd R] : Prop where
  noz : ∀ a y : R, 0 < Kd.num y → a * y = 0 → a = 0
  dvd_le : ∀ a d : R, 0 < Kd.num d → 0 < Kd.num (a * d) → Kd.num d ≤ Kd.num (a * d) ∧ 0 < Kd.num a
  sz_low : ∀ x y q : R, bitsOf (Kd.num (x - y * q)) ≤ max (bitsOf (Kd.num x)) (bitsOf (Kd.num y) + bitsOf (Kd.num q)) + 1
  sz_quo : ∀ x y : R, 0 < Kd.num y → bitsOf (Kd.num (Kd.quo x y)) ≤ bitsOf (Kd.num x)
  sz_neg : ∀ x : R, bitsOf (Kd.num (-x)) = bitsOf (Kd.num x)
theorem bits_abs (i : Int) : bitsOf i = bl i.natAbs := by
  unfold bitsOf Builtin.Int.intBits bl
  by_cases h : i = 0
  · subst h; rfl
  · rw [if_neg (by simpa using h), if_neg (by omega)]
theorem bl_mono {m n : Nat} (h : m ≤ n) : bl m ≤ bl n := bl_le (Nat.lt_of_le_of_lt h (lt_bl n))
instance : KdM Int where
  noz a y h e := by
    have h' : (0 : Int) < y := h
    rcases Int.mul_eq_zero.mp e with z | z
    · exact z
    · omega
  dvd_le a d h e := by
    have h' : (0 : Int) < d := h
    have e' : (0 : Int) < a * d := e
    have ha : 0 < a := by
      rcases (show 0 < a ∨ a ≤ 0 by omega) with z | z
      · exact z
      · have := Int.mul_nonpos_of_nonpos_of_nonneg z (Int.le_of_lt h'); omega
    refine ⟨?_, ha⟩
    show d ≤ a * d
    have := Int.mul_le_mul_of_nonneg_right (show 1 ≤ a by omega) (Int.le_of_lt h')
    omega
  sz_low x y q := by
    rw [bits_abs, bits_abs, bits_abs, bits_abs]
    refine bl_le ?_
    show (x - y * q : Int).natAbs < _
    have hx : x.natAbs < 2 ^ bl x.natAbs := lt_bl _
    have hy : y.natAbs < 2 ^ bl y.natAbs := lt_bl _
    have hq : q.natAbs < 2 ^ bl q.natAbs := lt_bl _
    have h1 : (y * q : Int).natAbs = y.natAbs * q.natAbs := Int.natAbs_mul y q
    have h2 : y.natAbs * q.natAbs < 2 ^ (bl y.natAbs + bl q.natAbs) := by
      rw [Nat.pow_add]; exact Nat.mul_lt_mul'' hy hq
    have h3 : (x - y * q : Int).natAbs ≤ x.natAbs + (y * q : Int).natAbs := by omega
    show _ < 2 ^ (max (bl x.natAbs) (bl y.natAbs + bl q.natAbs) + 1)
    have p1 := Nat.pow_le_pow_right (show 0 < 2 by decide) (Nat.le_max_left (bl x.natAbs) (bl y.natAbs + bl q.natAbs))
    have p2 := Nat.pow_le_pow_right (show 0 < 2 by decide) (Nat.le_max_right (bl x.natAbs) (bl y.natAbs + bl q.natAbs))
    rw [Nat.pow_succ]
    omega
  sz_quo x y h := by
    rw [bits_abs, bits_abs]
    refine bl_mono ?_
    show (x / y : Int).natAbs ≤ (x : Int).natAbs
    have h' : (0 : Int) < y := h
    have a1 := Int.mul_ediv_add_emod x y
    have a2 := Int.emod_nonneg x (show y ≠ 0 by omega)
    have a3 := Int.emod_lt_of_pos x h'
    rcases (show (x : Int) < 0 ∨ (0 : Int) ≤ x by omega) with z | z
    · have b1 : x / y < 0 := Int.ediv_neg_of_neg_of_pos z h'
      have b2 : y * (x / y) ≤ 1 * (x / y) := Int.mul_le_mul_of_nonpos_right (by omega) (by omega)
      have b3 : x / y ≥ x := by
        rcases (show (x / y : Int) < x ∨ (x : Int) ≤ x / y by omega) with q | q
        · have c1 : x / y ≤ x - 1 := by omega
          have c2 : y * (x / y) ≤ y * (x - 1) := Int.mul_le_mul_of_nonneg_left c1 (by omega)
          have c3 : y * (x - 1) = y * x - y := by rw [Int.mul_sub, Int.mul_one]
          have c4 : y * x ≤ 1 * x := Int.mul_le_mul_of_nonpos_right (by omega) (by omega)
          omega
        · exact q
      omega
    · have b1 := Int.ediv_nonneg z (Int.le_of_lt h')
      have b2 := Int.ediv_le_self y z
      omega
  sz_neg x := by
    rw [bits_abs, bits_abs]
    show bl (-x : Int).natAbs = _
    rw [Int.natAbs_neg]; rfl
instance : KdM Pol where
  noz a y h e := by
    have h' : 0 < y.val := by have : (0 : Int) < (y.val : Int) := h; omega
    rcases Nat.eq_zero_or_pos a.val with z | z
    · exact Pol.ext z
    · have := bl_mul z h'
      have e' : clm a.val y.val = 0 := congrArg Pol.val e
      rw [e'] at this
      have b1 := bl_pos z
      have b2 := bl_pos h'
      have : bl 0 = 0 := rfl
      omega
  dvd_le a d h e := by
    have h' : 0 < d.val := by have : (0 : Int) < (d.val : Int) := h; omega
    have e' : 0 < clm a.val d.val := by have : (0 : Int) < ((clm a.val d.val : Nat) : Int) := e; omega
    have ha : 0 < a.val := by
      rcases Nat.eq_zero_or_pos a.val with z | z
      · rw [z, clm_zero_left] at e'; omega
      · exact z
    refine ⟨?_, by show (0 : Int) < (a.val : Int); omega⟩
    show (d.val : Int) ≤ ((clm a.val d.val : Nat) : Int)
    have m := bl_mul ha h'
    have b1 := bl_pos ha
    have b2 := bl_pos h'
    by_cases z : bl a.val = 1
    · have : a.val = 1 := by
        have := lt_bl a.val
        rw [z] at this; omega
      rw [this, clm_one_left]; omega
    · have c1 := two_bl_le e'
      have c2 := lt_bl d.val
      have c3 := Nat.pow_le_pow_right (show 0 < 2 by decide) (show bl d.val ≤ bl (clm a.val d.val) - 1 by omega)
      omega
  sz_low x y q := by
    show bitsOf (((x.val ^^^ clm y.val q.val : Nat)) : Int) ≤ max (bitsOf (x.val : Int)) (bitsOf (y.val : Int) + bitsOf (q.val : Int)) + 1
    rw [bits_nat, bits_nat, bits_nat, bits_nat]
    have h1 := bl_xor_le x.val (clm y.val q.val)
    have h2 : bl (clm y.val q.val) ≤ bl y.val + bl q.val := by
      rcases Nat.eq_zero_or_pos y.val with z | z
      · rw [z, clm_zero_left]; exact Nat.zero_le _
      · rcases Nat.eq_zero_or_pos q.val with z2 | z2
        · rw [z2, clm_zero_right]; exact Nat.zero_le _
        · rw [bl_mul z z2]; omega
    omega
  sz_quo x y h := by
    have h' : 0 < y.val := by have : (0 : Int) < (y.val : Int) := h; omega
    show bitsOf ((dvq x.val y.val : Nat) : Int) ≤ bitsOf (x.val : Int)
    rw [bits_nat, bits_nat]
    obtain ⟨h1, h2⟩ := dv_spec x.val h'
    rcases Nat.eq_zero_or_pos (dvq x.val y.val) with z | z
    · rw [z]; exact Nat.zero_le _
    · have m := bl_mul z h'
      have b1 := bl_pos z
      have b2 := bl_pos h'
      have e : clm (dvq x.val y.val) y.val = x.val ^^^ dvr x.val y.val := by
        have e' : x.val ^^^ dvr x.val y.val = (clm (dvq x.val y.val) y.val ^^^ dvr x.val y.val) ^^^ dvr x.val y.val := by rw [← h2]
        rw [e', Nat.xor_assoc, Nat.xor_self, Nat.xor_zero]
      have k := bl_xor_le x.val (dvr x.val y.val)
      rw [← e] at k
      omega
  sz_neg x := rfl
end PU
set_option Elab.async false
set_option linter.all false
set_option maxRecDepth 100000
/-! M2: what rows reach. -/
namespace PU
open PySem PySem.Spec PyProof.Rows L2
section
variable {R : Type} [Kd R]
def vec (row : List R) : Nat → R := fun i => row.getD i 0
inductive Sp (G : (Nat → R) → Prop) : (Nat → R) → Prop
  | zero : Sp G (fun _ => 0)
  | add {v g : Nat → R} (q : R) : Sp G v → G g → Sp G (fun i => v i + g i * q)
variable {G G' : (Nat → R) → Prop} {u v g : Nat → R}
theorem Sp.of_eq (h : Sp G v) (e : ∀ i, v i = u i) : Sp G u := by
  have : v = u := funext e
  subst this; exact h
theorem Sp.gen (h : G g) : Sp G g := (Sp.add 1 .zero h).of_eq fun i => by grind
theorem Sp.sum (h : Sp G u) (k : Sp G v) : Sp G (fun i => u i + v i) := by
  induction k with
  | zero => exact h.of_eq fun i => by grind
  | add q _ hg ih => exact (Sp.add q ih hg).of_eq fun i => by grind
theorem Sp.smul (a : R) (h : Sp G u) : Sp G (fun i => u i * a) := by
  induction h with
  | zero => exact Sp.zero.of_eq fun i => by grind
  | add q _ hg ih => exact (Sp.add (q * a) ih hg).of_eq fun i => by grind
theorem Sp.sub (h : Sp G u) (k : Sp G v) : Sp G (fun i => u i - v i) := (h.sum (k.smul (-1))).of_eq fun i => by grind
theorem Sp.sub_mul (h : Sp G u) (k : Sp G v) (a : R) : Sp G (fun i => u i - v i * a) := (h.sum (k.smul (-a))).of_eq fun i => by grind
theorem Sp.mono (h : Sp G v) (k : ∀ g, G g → Sp G' g) : Sp G' v := by
  induction h with
  | zero => exact .zero
  | add q _ hg ih => exact (ih.sum ((k _ hg).smul q)).of_eq fun i => rfl
/-- what holds of all that spans, and is linear, holds of what is spanned -/
theorem Sp.zero_at {i : Nat} (h : Sp G v) (k : ∀ g, G g → g i = 0) : v i = 0 := by
  induction h with
  | zero => rfl
  | add q _ hg ih => show _ + _ * q = 0; rw [ih, k _ hg]; grind
def rG (rows : List (List R)) : (Nat → R) → Prop := fun v => ∃ row ∈ rows, v = vec row
abbrev SpR' (rows : List (List R)) : (Nat → R) → Prop := Sp (rG rows)
theorem SpR'.mem {rows : List (List R)} {row : List R} (h : row ∈ rows) : SpR' rows (vec row) := .gen ⟨row, h, rfl⟩
theorem vec_low {row other : List R} {q : R} (h : row.length = other.length) (i : Nat) : vec (lowR row other q) i = vec row i - vec other i * q := by
  unfold vec lowR
  rw [List.getD_eq_getElem?_getD, List.getD_eq_getElem?_getD, List.getD_eq_getElem?_getD, List.getElem?_zipWith]
  rcases Nat.lt_or_ge i row.length with l | l
  · rw [List.getElem?_eq_getElem l, List.getElem?_eq_getElem (show i < other.length by omega)]; rfl
  · rw [List.getElem?_eq_none l, List.getElem?_eq_none (show other.length ≤ i by omega)]
    show (0 : R) = 0 - 0 * q
    grind
theorem vec_neg {row : List R} (i : Nat) : vec (row.map fun x => -x) i = - vec row i := by
  unfold vec
  rw [List.getD_eq_getElem?_getD, List.getD_eq_getElem?_getD, List.getElem?_map]
  cases row[i]? with
  | none => show (0 : R) = -0; grind
  | some x => rfl
theorem col_vec (c : Nat) (row : List R) : col c row = vec row c := rfl
theorem num_zero {x : R} (h : Kd.num x = 0) : x = 0 := Kd.inj (by rw [h, Kd.num0])
/-- rows upright reach the same -/
theorem sp_up (c : Nat) (rows : List (List R)) (v : Nat → R) : SpR' (rows.map (upR c)) v ↔ SpR' rows v := by
  constructor
  · intro h
    refine h.mono fun g ⟨row, hr, e⟩ => ?_
    obtain ⟨r, hr', rfl⟩ := List.mem_map.mp hr
    subst e
    unfold upR
    split
    · exact ((SpR'.mem hr').smul (-1)).of_eq fun i => by rw [vec_neg]; grind
    · exact SpR'.mem hr'
  · intro h
    refine h.mono fun g ⟨row, hr, e⟩ => ?_
    subst e
    have hm : upR c row ∈ rows.map (upR c) := List.mem_map_of_mem hr
    by_cases z : Kd.num (row.getD c 0) < 0
    · have e : upR c row = row.map fun x => -x := if_pos z
      rw [e] at hm
      exact ((SpR'.mem hm).smul (-1)).of_eq fun i => by rw [vec_neg]; grind
    · have e : upR c row = row := if_neg z
      rw [e] at hm
      exact SpR'.mem hm
theorem mem_step {c b : Nat} {rows : List (List R)} {row : List R} : row ∈ stepR c b rows ↔ ∃ i, i < rows.length ∧ row = if i = b then rows.getD i [] else lowR (rows.getD i []) (rows.getD b []) (Kd.quo (col c (rows.getD i [])) (col c (rows.getD b []))) := by
  unfold stepR
  constructor
  · intro h
    obtain ⟨p, hp, rfl⟩ := List.mem_map.mp h
    obtain ⟨h1, h2⟩ := enumR_get [] hp
    exact ⟨p.1, h1, by rw [h2]⟩
  · rintro ⟨i, hi, rfl⟩
    refine List.mem_map.mpr ⟨(i, rows.getD i []), ?_, rfl⟩
    unfold enumR
    refine List.mem_iff_getElem?.mpr ⟨i, ?_⟩
    rw [List.getElem?_zip_eq_some]
    exact ⟨by rw [List.getElem?_range hi], by rw [List.getD_eq_getElem?_getD, List.getElem?_eq_getElem hi]; rfl⟩
theorem getD_len {n c i : Nat} {rows : List (List R)} (sh : Shp n c rows) (hi : i < rows.length) : (rows.getD i []).length = n := sh.len _ (getD_mem [] hi)
/-- a step reaches the same -/
theorem sp_step {n c b : Nat} {rows : List (List R)} (sh : Shp n c rows) (hb : b < rows.length) (v : Nat → R) : SpR' (stepR c b rows) v ↔ SpR' rows v := by
  have hbm : rows.getD b [] ∈ stepR c b rows := mem_step.mpr ⟨b, hb, by rw [if_pos rfl]⟩
  constructor
  · intro h
    refine h.mono fun g ⟨row, hr, e⟩ => ?_
    subst e
    obtain ⟨i, hi, rfl⟩ := mem_step.mp hr
    split
    · exact SpR'.mem (getD_mem [] hi)
    · exact ((SpR'.mem (getD_mem [] hi)).sub_mul (SpR'.mem (getD_mem [] hb)) _).of_eq fun j => (vec_low (by rw [getD_len sh hi, getD_len sh hb]) j).symm
  · intro h
    refine h.mono fun g ⟨row, hr, e⟩ => ?_
    subst e
    obtain ⟨i, hi, e⟩ := List.mem_iff_getElem.mp hr
    have e2 : rows.getD i [] = row := by rw [List.getD_eq_getElem?_getD, List.getElem?_eq_getElem hi, e]; rfl
    by_cases z : i = b
    · subst z; rw [← e2]; exact SpR'.mem hbm
    · have hm : lowR row (rows.getD b []) (Kd.quo (col c row) (col c (rows.getD b []))) ∈ stepR c b rows := mem_step.mpr ⟨i, hi, by rw [if_neg z, e2]⟩
      exact ((SpR'.mem hm).sub_mul (SpR'.mem hbm) (-Kd.quo (col c row) (col c (rows.getD b [])))).of_eq fun j => by
        rw [vec_low (by rw [← e2, getD_len sh hi, getD_len sh hb]) j]; grind
theorem rem_col {n c b i : Nat} {rows : List (List R)} (sh : Shp n c rows) (hi : i < rows.length) (hb : b < rows.length) (hp : 0 < Kd.num (col c (rows.getD b []))) : vec (lowR (rows.getD i []) (rows.getD b []) (Kd.quo (col c (rows.getD i [])) (col c (rows.getD b [])))) c = Kd.rem (col c (rows.getD i [])) (col c (rows.getD b [])) := by
  rw [vec_low (by rw [getD_len sh hi, getD_len sh hb]), ← col_vec, ← col_vec]
  have := Kd.quo_rem (col c (rows.getD i [])) (col c (rows.getD b [])) hp
  grind
/-- what led tells -/
structure LedOk (n c : Nat) (rows : List (List R)) (o : Option (List R)) (out : List (List R)) : Prop where
  zero : ∀ row ∈ out, row.length = n ∧ vec row c = 0
  few : out.length ≤ rows.length
  lead : ∀ l, o = some l → l.length = n ∧ 0 < Kd.num (vec l c)
  sp : ∀ v, SpR' rows v ↔ SpR' (o.toList ++ out) v
theorem led_spec {n c m : Nat} {rows : List (List R)} {o : Option (List R)} {out : List (List R)} (h : Led c m rows o out) : Shp n c rows → LedOk n c rows o out := by
  induction h with
  | zero h0 =>
    rename_i rows
    intro sh
    refine ⟨fun row hr => ⟨sh.len row hr, ?_⟩, Nat.le_refl _, (fun l e => nomatch e), fun v => Iff.rfl⟩
    rw [some0_eq] at h0
    obtain ⟨i, hi, e⟩ := List.mem_iff_getElem.mp hr
    have := List.filter_eq_nil_iff.mp h0 i (List.mem_range.mpr hi)
    rw [List.getD_eq_getElem?_getD, List.getElem?_eq_getElem hi, e] at this
    refine num_zero ?_
    show Kd.num (col c row) = 0
    simpa using this
  | done hb sz hz =>
    rename_i rows b
    intro sh
    have sh' := sh.step hb.lt
    have hlb : (stepR c b rows)[b]? = some (rows.getD b []) := by
      unfold stepR
      rw [List.getElem?_map]
      have : (enumR rows)[b]? = some (b, rows.getD b []) := by
        unfold enumR
        rw [List.getElem?_zip_eq_some]
        exact ⟨by rw [List.getElem?_range hb.lt], by rw [List.getD_eq_getElem?_getD, List.getElem?_eq_getElem hb.lt]; rfl⟩
      rw [this]
      show some (if b = b then _ else _) = _
      rw [if_pos rfl]
    have hlt : b < (stepR c b rows).length := by rw [stepR_length]; exact hb.lt
    have ho : ∀ row ∈ (stepR c b rows).take b ++ (stepR c b rows).drop (b + 1), ∃ i, i ≠ b ∧ (stepR c b rows)[i]? = some row := fun row hr => by
      rcases List.mem_append.mp hr with h | h
      · obtain ⟨i, e⟩ := List.mem_iff_getElem?.mp h
        have hi := (List.getElem?_eq_some_iff.mp e).1
        rw [List.length_take] at hi
        exact ⟨i, by omega, by rw [List.getElem?_take, if_pos (show i < b by omega)] at e; exact e⟩
      · obtain ⟨i, e⟩ := List.mem_iff_getElem?.mp h
        rw [List.getElem?_drop] at e
        exact ⟨b + 1 + i, by omega, e⟩
    refine ⟨fun row hr => ?_, ?_, fun l e => ?_, fun v => ?_⟩
    · obtain ⟨i, hne, e⟩ := ho row hr
      refine ⟨sh'.len row (List.mem_of_getElem? e), ?_⟩
      have hm : (i, row) ∈ enumR (stepR c b rows) := by
        unfold enumR
        refine List.mem_iff_getElem?.mpr ⟨i, ?_⟩
        rw [List.getElem?_zip_eq_some]
        exact ⟨by rw [List.getElem?_range (List.getElem?_eq_some_iff.mp e).1], e⟩
      have hz' : ((enumR (stepR c b rows)).filter fun p => !decide (p.1 = b) && !decide (Kd.num (col c p.2) = 0)) = [] := List.map_eq_nil_iff.mp hz
      have := List.filter_eq_nil_iff.mp hz' _ hm
      simp only [hne, decide_false, Bool.not_false, Bool.true_and, Bool.not_eq_true', decide_eq_false_iff_not, Decidable.not_not] at this
      exact num_zero this
    · rw [List.length_append, List.length_take, List.length_drop, stepR_length]
      have := hb.lt
      omega
    · cases e
      exact ⟨getD_len sh hb.lt, sz.pos⟩
    · rw [← sp_step sh hb.lt v]
      constructor
      · intro h
        refine h.mono fun g ⟨row, hr, e⟩ => ?_
        subst e
        obtain ⟨i, hi, e⟩ := List.mem_iff_getElem.mp hr
        by_cases z : i = b
        · subst z
          rw [List.getElem?_eq_getElem hi, e] at hlb
          cases hlb
          exact SpR'.mem (by simp)
        · refine SpR'.mem (List.mem_append_right _ ?_)
          rcases Nat.lt_or_gt_of_ne z with l | l
          · refine List.mem_append_left _ (List.mem_iff_getElem?.mpr ⟨i, ?_⟩)
            rw [List.getElem?_take, if_pos l, List.getElem?_eq_getElem hi, e]
          · refine List.mem_append_right _ (List.mem_iff_getElem?.mpr ⟨i - (b + 1), ?_⟩)
            rw [List.getElem?_drop, show b + 1 + (i - (b + 1)) = i by omega, List.getElem?_eq_getElem hi, e]
      · intro h
        refine h.mono fun g ⟨row, hr, e⟩ => ?_
        subst e
        rcases List.mem_append.mp hr with h | h
        · have : row = rows.getD b [] := by simpa using h
          subst this
          exact SpR'.mem (List.mem_of_getElem? hlb)
        · obtain ⟨i, _, e⟩ := ho row h
          exact SpR'.mem (List.mem_of_getElem? e)
  | more hb sz hz hl ih =>
    rename_i rows b m o out
    intro sh
    have k := ih (sh.step hb.lt)
    exact ⟨k.zero, by rw [← stepR_length c b rows]; exact k.few, k.lead, fun v => by rw [← sp_step sh hb.lt v]; exact k.sp v⟩
end
end PU
set_option Elab.async false
set_option linter.all false
set_option maxRecDepth 100000
/-! M3: a column is led, and how long its numbers get. -/
namespace PU
open PySem PySem.Spec PyProof.Rows L2
section
variable {R : Type} [Kd R]
theorem least (P : Nat → Prop) : ∀ n, P n → ∃ n, P n ∧ ∀ m, m < n → ¬ P m := by
  intro n
  induction n using Nat.strongRecOn with
  | ind n ih =>
    intro h
    by_cases z : ∃ m, m < n ∧ P m
    · obtain ⟨m, hm, hp⟩ := z
      exact ih m hm hp
    · exact ⟨n, h, fun m hm hp => z ⟨m, hm, hp⟩⟩
def Bd (B : Nat) (rows : List (List R)) : Prop := ∀ row ∈ rows, ∀ x ∈ row, bitsOf (Kd.num x) ≤ B
theorem bd_zero : bitsOf (Kd.num (0 : R)) ≤ 0 := by rw [Kd.num0]; decide
theorem Bd.at {B c : Nat} {rows : List (List R)} {row : List R} (h : Bd B rows) (hr : row ∈ rows) : bitsOf (Kd.num (vec row c)) ≤ B := by
  unfold vec
  rcases Nat.lt_or_ge c row.length with l | l
  · exact h row hr _ (getD_mem 0 l)
  · rw [List.getD_eq_getElem?_getD, List.getElem?_eq_none l]
    exact Nat.le_trans bd_zero (Nat.zero_le _)
theorem Bd.mono {B B' : Nat} {rows : List (List R)} (h : Bd B rows) (l : B ≤ B') : Bd B' rows := fun r hr x hx => Nat.le_trans (h r hr x hx) l
theorem best_ex {c : Nat} {rows : List (List R)} (nn : ∀ i, i < rows.length → 0 ≤ Kd.num (col c (rows.getD i []))) {k : Nat} (h : k < rows.length) (hk : Kd.num (col c (rows.getD k [])) ≠ 0) : ∃ b, Best c b rows := by
  obtain ⟨v, ⟨i, hi, hv, hn⟩, hm⟩ := least (fun v => ∃ i, i < rows.length ∧ (Kd.num (col c (rows.getD i []))).toNat = v ∧ Kd.num (col c (rows.getD i [])) ≠ 0) _ ⟨k, h, rfl, hk⟩
  obtain ⟨b, ⟨hb, hbv, hbn⟩, hbm⟩ := least (fun i => i < rows.length ∧ (Kd.num (col c (rows.getD i []))).toNat = v ∧ Kd.num (col c (rows.getD i [])) ≠ 0) _ ⟨hi, hv, hn⟩
  refine ⟨b, hb, hbn, fun j hj hjn => ?_⟩
  have n1 := nn b hb
  have n2 := nn j hj
  have k1 := hm (Kd.num (col c (rows.getD j []))).toNat
  have k2 : ¬ (Kd.num (col c (rows.getD j []))).toNat < v := fun z => k1 z ⟨j, hj, rfl, hjn⟩
  refine ⟨by omega, fun z => ?_⟩
  have k3 := hbm j z
  have k4 : (Kd.num (col c (rows.getD j []))).toNat ≠ v := fun e => k3 ⟨hj, e, hjn⟩
  omega
theorem step_get {c b i : Nat} {rows : List (List R)} (h : i < rows.length) : (stepR c b rows)[i]? = some (if i = b then rows.getD i [] else lowR (rows.getD i []) (rows.getD b []) (Kd.quo (col c (rows.getD i [])) (col c (rows.getD b [])))) := by
  unfold stepR
  have : (enumR rows)[i]? = some (i, rows.getD i []) := by
    unfold enumR
    rw [List.getElem?_zip_eq_some]
    exact ⟨by rw [List.getElem?_range h], by rw [List.getD_eq_getElem?_getD, List.getElem?_eq_getElem h]; rfl⟩
  rw [List.getElem?_map, this]
  rfl
theorem step_getD {c b i : Nat} {rows : List (List R)} (h : i < rows.length) : (stepR c b rows).getD i [] = if i = b then rows.getD i [] else lowR (rows.getD i []) (rows.getD b []) (Kd.quo (col c (rows.getD i [])) (col c (rows.getD b []))) := by
  rw [List.getD_eq_getElem?_getD, step_get h]; rfl
variable [KdM R] [KdS R]
theorem quo_zero {y : R} (h : 0 < Kd.num y) : Kd.quo 0 y = 0 := by
  have e := Kd.quo_rem 0 y h
  have s := (KdS.sz y h).1
  have r : Kd.rem (0 : R) y = 0 := (Kd.rem_fix 0 y h).mpr ⟨by rw [Kd.num0]; omega, by rw [Kd.num0]; omega⟩
  rw [r] at e
  exact KdM.noz _ _ h (by grind)
theorem low_zero : ∀ {row other : List R}, row.length = other.length → lowR row other 0 = row
  | [], _, _ => rfl
  | _ :: _, [], h => by cases h
  | x :: row, y :: other, h => by
    show (x - y * 0) :: lowR row other 0 = x :: row
    rw [low_zero (by simpa using h), show x - y * 0 = x from by grind]
theorem low_bits {B Q : Nat} {row other : List R} {q : R} (h1 : ∀ x ∈ row, bitsOf (Kd.num x) ≤ B) (h2 : ∀ x ∈ other, bitsOf (Kd.num x) ≤ B) (h3 : bitsOf (Kd.num q) ≤ Q) : ∀ x ∈ lowR row other q, bitsOf (Kd.num x) ≤ B + Q + 1 := by
  intro x hx
  unfold lowR at hx
  rw [zw] at hx
  obtain ⟨p, hp, rfl⟩ := List.mem_map.mp hx
  have m := List.of_mem_zip hp
  have := KdM.sz_low p.1 p.2 q
  have a := h1 _ m.1
  have b := h2 _ m.2
  omega
/-- what a led column leaves -/
structure LedB (c B' k : Nat) (rows : List (List R)) (o : List R) (out : List (List R)) : Prop where
  bd : Bd B' (o :: out)
  le : Kd.num (vec o c) ≤ (k : Int)
  keep : ∀ row ∈ rows, vec row c = 0 → row ∈ out
theorem bits_le {x : R} {V : Nat} (h0 : 0 ≤ Kd.num x) (h : Kd.num x ≤ (V : Int)) : bitsOf (Kd.num x) ≤ bl V := by
  rw [bits_abs]; exact bl_mono (by omega)
theorem led_ex {n c V : Nat} (hV : bl V ≤ 9000) : ∀ (k : Nat) (rows : List (List R)) (B Q i : Nat), k ≤ V → Shp n c rows → (∀ i, i < rows.length → 0 ≤ Kd.num (col c (rows.getD i []))) → i < rows.length → 0 < Kd.num (col c (rows.getD i [])) → Kd.num (col c (rows.getD i [])) ≤ (k : Int) → Bd B rows → (∀ i, i < rows.length → bitsOf (Kd.num (col c (rows.getD i []))) ≤ Q) → Q ≤ B → B + Q + 1 + k * (bl V + 1) ≤ 2 ^ 25 →
    ∃ m o out, Led c m rows (some o) out ∧ LedB c (B + Q + 1 + k * (bl V + 1)) k rows o out
  | 0, rows, B, Q, i, _, sh, nn, hi, h0, h1, bd, hq, _, hB => by omega
  | k + 1, rows, B, Q, i, kV, sh, nn, hi, h0, h1, bd, hq, hQB, hB => by
    obtain ⟨b, hb⟩ := best_ex nn hi (by omega)
    have hbp : 0 < Kd.num (col c (rows.getD b [])) := by
      have := nn b hb.lt
      have := hb.ne
      omega
    have hbk : Kd.num (col c (rows.getD b [])) ≤ ((k + 1 : Nat) : Int) := by
      have := (hb.le i hi (by omega)).1
      omega
    have hbb : bitsOf (Kd.num (col c (rows.getD b []))) ≤ bl V := bits_le (by omega) (by omega)
    have hqq : ∀ j, j < rows.length → bitsOf (Kd.num (Kd.quo (col c (rows.getD j [])) (col c (rows.getD b [])))) ≤ Q := fun j hj => Nat.le_trans (KdM.sz_quo _ _ hbp) (hq j hj)
    have kk : (k + 1) * (bl V + 1) = k * (bl V + 1) + bl V + 1 := by rw [Nat.succ_mul]; omega
    have get : ∀ row ∈ rows, ∃ j, j < rows.length ∧ rows.getD j [] = row := fun row hr => by
      obtain ⟨j, hj, e⟩ := List.mem_iff_getElem.mp hr
      exact ⟨j, hj, by rw [List.getD_eq_getElem?_getD, List.getElem?_eq_getElem hj, e]; rfl⟩
    have sz : Szs c b rows := by
      refine ⟨fun row hr x hx => ?_, hbp, by omega, fun row hr => ?_⟩
      · have := bd row hr x hx
        show _ ≤ 2 ^ 25
        omega
      · obtain ⟨j, hj, e⟩ := get row hr
        rw [← e]
        have := hqq j hj
        show _ ≤ 2 ^ 25
        omega
    have bd' : Bd (B + Q + 1) (stepR c b rows) := by
      intro row hr
      obtain ⟨j, hj, e⟩ := mem_step.mp hr
      rw [e]
      split
      · intro x hx
        have := bd _ (getD_mem [] hj) x hx
        omega
      · exact low_bits (bd _ (getD_mem [] hj)) (bd _ (getD_mem [] hb.lt)) (hqq j hj)
    have len := stepR_length c b rows
    have colr : ∀ j, j < rows.length → j ≠ b → col c ((stepR c b rows).getD j []) = Kd.rem (col c (rows.getD j [])) (col c (rows.getD b [])) := fun j hj ne => by
      rw [step_getD hj, if_neg ne]
      exact rem_col sh hj hb.lt hbp
    have keep : ∀ row ∈ rows, vec row c = 0 → ∃ j, j ≠ b ∧ (stepR c b rows)[j]? = some row := fun row hr e0 => by
      obtain ⟨j, hj, e⟩ := get row hr
      have ne : j ≠ b := fun z => by
        rw [z] at e
        have : col c (rows.getD b []) = 0 := by rw [e]; exact e0
        rw [this, Kd.num0] at hbp
        omega
      refine ⟨j, ne, ?_⟩
      rw [step_get hj, if_neg ne, e, show col c row = 0 from e0, quo_zero hbp, low_zero]
      rw [sh.len row hr, getD_len sh hb.lt]
    by_cases z : (((enumR (stepR c b rows)).filter fun p => !decide (p.1 = b) && !decide (Kd.num (col c p.2) = 0)).map (·.1)) = []
    · refine ⟨_, _, _, .done hb sz z, ?_, hbk, fun row hr e0 => ?_⟩
      · intro row hr x hx
        have : row ∈ stepR c b rows := by
          rcases List.mem_cons.mp hr with e | e
          · rw [e]
            exact mem_step.mpr ⟨b, hb.lt, by rw [if_pos rfl]⟩
          · rcases List.mem_append.mp e with e | e
            · exact List.mem_of_mem_take e
            · exact List.mem_of_mem_drop e
        have := bd' row this x hx
        omega
      · obtain ⟨j, ne, e⟩ := keep row hr e0
        rcases Nat.lt_or_gt_of_ne ne with l | l
        · refine List.mem_append_left _ (List.mem_iff_getElem?.mpr ⟨j, ?_⟩)
          rw [List.getElem?_take, if_pos l, e]
        · refine List.mem_append_right _ (List.mem_iff_getElem?.mpr ⟨j - (b + 1), ?_⟩)
          rw [List.getElem?_drop, show b + 1 + (j - (b + 1)) = j by omega, e]
    · have z' : ((enumR (stepR c b rows)).filter fun p => !decide (p.1 = b) && !decide (Kd.num (col c p.2) = 0)) ≠ [] := fun e => z (by rw [e]; rfl)
      obtain ⟨p, hp⟩ := List.exists_mem_of_ne_nil _ z'
      obtain ⟨hp1, hp2⟩ := List.mem_filter.mp hp
      obtain ⟨hpl, hpe⟩ := enumR_get [] hp1
      rw [Bool.and_eq_true] at hp2
      have ne : p.1 ≠ b := by simpa using hp2.1
      have nz : Kd.num (col c p.2) ≠ 0 := by simpa using hp2.2
      rw [len] at hpl
      have ec := colr p.1 hpl ne
      rw [hpe] at ec
      have r0 := Kd.rem_nonneg (col c (rows.getD p.1 [])) _ hbp
      have r1 := Kd.rem_lt (col c (rows.getD p.1 [])) _ hbp
      rw [← ec] at r0 r1
      have low : ∀ j, j < (stepR c b rows).length → 0 ≤ Kd.num (col c ((stepR c b rows).getD j [])) ∧ Kd.num (col c ((stepR c b rows).getD j [])) ≤ Kd.num (col c (rows.getD b [])) := fun j hj => by
        rw [len] at hj
        by_cases ej : j = b
        · rw [ej, step_getD hb.lt, if_pos rfl]
          exact ⟨by omega, Int.le_refl _⟩
        · rw [colr j hj ej]
          have a1 := Kd.rem_nonneg (col c (rows.getD j [])) _ hbp
          have a2 := Kd.rem_lt (col c (rows.getD j [])) _ hbp
          exact ⟨a1, by omega⟩
      have hVB : bl V ≤ B + Q + 1 ∨ ¬ bl V ≤ B + Q + 1 := Decidable.em _
      obtain ⟨m, o, out, hl, hr⟩ := led_ex hV k (stepR c b rows) (B + Q + 1) (min (bl V) (B + Q + 1)) p.1 (by omega) (sh.step hb.lt) (fun j hj => (low j hj).1) (by rw [len]; exact hpl) (by rw [hpe]; omega) (by rw [hpe]; omega) bd' (fun j hj => by
          have a1 : bitsOf (Kd.num (col c ((stepR c b rows).getD j []))) ≤ bl V := bits_le (low j hj).1 (by have := (low j hj).2; omega)
          have a2 := bd'.at (c := c) (getD_mem [] hj)
          rw [← col_vec] at a2
          omega) (Nat.min_le_right _ _) (by have := Nat.min_le_left (bl V) (B + Q + 1); omega)
      refine ⟨_, o, out, .more hb sz z hl, hr.bd.mono (by have := Nat.min_le_left (bl V) (B + Q + 1); omega), by have := hr.le; omega, fun row hr' e0 => ?_⟩
      obtain ⟨j, _, e⟩ := keep row hr' e0
      exact hr.keep row (List.mem_of_getElem? e) e0
end
end PU
set_option Elab.async false
set_option linter.all false
set_option maxRecDepth 100000
/-! M4: grids. -/
namespace PU
open PySem PySem.Spec PyProof.Rows L2
section
variable {R : Type} [Kd R]
theorem up_len (c : Nat) (row : List R) : (upR c row).length = row.length := by
  unfold upR; split
  · rw [List.length_map]
  · rfl
theorem vec_up_zero {c i : Nat} {row : List R} (h : vec row i = 0) : vec (upR c row) i = 0 := by
  unfold upR; split
  · rw [vec_neg, h]; grind
  · exact h
theorem up_nn (c : Nat) (row : List R) : 0 ≤ Kd.num (vec (upR c row) c) := by
  unfold upR
  split
  · rename_i h
    rw [vec_neg]
    have := Kd.num_neg (vec row c) h
    omega
  · rename_i h
    have h' : ¬ Kd.num (vec row c) < 0 := h
    omega
theorem up_id {c : Nat} {row : List R} (h : 0 ≤ Kd.num (vec row c)) : upR c row = row := by
  unfold upR
  rw [if_neg]
  have h' : 0 ≤ Kd.num (row.getD c 0) := h
  omega
/-- a row with one number only -/
def One (n c : Nat) (y : R) (row : List R) : Prop := row.length = n ∧ ∀ i, vec row i = if i = c then y else 0
def gB (V : Nat) : Nat → Nat → Nat
  | 0, B => B
  | d + 1, B => gB V d (2 * B + 1 + V * (bl V + 1))
theorem gB_mono (V : Nat) : ∀ d B, B ≤ gB V d B
  | 0, B => Nat.le_refl B
  | d + 1, B => Nat.le_trans (by omega) (gB_mono V d (2 * B + 1 + V * (bl V + 1)))
/-- what a grid comes to -/
structure GridOk (n i j V B : Nat) (left : List (List R)) (l2 : Lds R) (left2 : List (List R)) : Prop where
  keys : keysL l2 = List.range' i (j - i)
  len : ∀ p ∈ l2, p.2.length = n
  lead : ∀ p ∈ l2, 0 < Kd.num (vec p.2 p.1) ∧ Kd.num (vec p.2 p.1) ≤ (V : Int)
  tri : ∀ p ∈ l2, ∀ c, c < p.1 → vec p.2 c = 0
  few : left2.length ≤ left.length
  len2 : ∀ row ∈ left2, row.length = n
  zero : ∀ row ∈ left2, ∀ c, c < j → vec row c = 0
  sp : ∀ v, SpR' left v ↔ SpR' ((l2.map fun p => p.2) ++ left2) v
  bd : Bd B ((l2.map fun p => p.2) ++ left2)
theorem sp_cons {rows rows2 : List (List R)} {row : List R} (h : ∀ v, SpR' rows v ↔ SpR' rows2 v) (v : Nat → R) : SpR' (row :: rows) v ↔ SpR' (row :: rows2) v := by
  have one : ∀ {a b : List (List R)}, (∀ v, SpR' a v → SpR' b v) → ∀ v, SpR' (row :: a) v → SpR' (row :: b) v := fun {a b} h v hv => by
    refine hv.mono fun g ⟨r, hr, e⟩ => ?_
    subst e
    rcases List.mem_cons.mp hr with e | e
    · subst e; exact SpR'.mem List.mem_cons_self
    · exact (h _ (SpR'.mem e)).mono fun g ⟨r2, hr2, e2⟩ => by
        subst e2
        exact SpR'.mem (List.mem_cons_of_mem _ hr2)
  exact ⟨one (fun v => (h v).mp) v, one (fun v => (h v).mpr) v⟩
variable [KdM R] [KdS R]
theorem grid_ex {n j V : Nat} (hV : bl V ≤ 9000) : ∀ (d i B : Nat) (l : Lds R) (left : List (List R)), i + d = j → j ≤ n → n ≤ 1000 → left.length ≤ 1000 → (∀ row ∈ left, row.length = n) → (∀ row ∈ left, ∀ c, c < i → vec row c = 0) → Bd B left → gB V d B ≤ 2 ^ 25 →
    (∀ c, i ≤ c → c < j → ∃ y : R, 0 < Kd.num y ∧ Kd.num y ≤ (V : Int) ∧ ∃ row ∈ left, One n c y row) →
    ∃ l2 left2, Grw n i j l left (l ++ l2) left2 ∧ GridOk n i j V (gB V d B) left l2 left2
  | 0, i, B, l, left, e, hj, hn, few, len, zero, bd, hB, one => by
    have e' : i = j := by omega
    subst e'
    refine ⟨[], left, by rw [List.append_nil]; exact .stop, ?_⟩
    exact ⟨by rw [Nat.sub_self]; rfl, fun p h => (nomatch h), fun p h => (nomatch h), fun p h => (nomatch h), Nat.le_refl _, len, zero, fun v => Iff.rfl, bd⟩
  | d + 1, i, B, l, left, e, hj, hn, few, len, zero, bd, hB, one => by
    have hgm := gB_mono V d (2 * B + 1 + V * (bl V + 1))
    have hB' : gB V d (2 * B + 1 + V * (bl V + 1)) ≤ 2 ^ 25 := hB
    have sh : Shp n i left := ⟨few, len, hn, by omega⟩
    have shu : Shp n i (left.map (upR i)) := ⟨by rw [List.length_map]; exact few, fun row hr => by
      obtain ⟨r, hr', rfl⟩ := List.mem_map.mp hr
      rw [up_len]; exact len r hr', hn, by omega⟩
    obtain ⟨y, hy0, hyV, row, hrow, hone⟩ := one i (Nat.le_refl _) (by omega)
    have hv : vec row i = y := by rw [hone.2 i, if_pos rfl]
    have hup : upR i row = row := up_id (by rw [hv]; omega)
    have hm : row ∈ left.map (upR i) := List.mem_map.mpr ⟨row, hrow, hup⟩
    obtain ⟨q, hq, eq⟩ := List.mem_iff_getElem.mp hm
    have eq2 : (left.map (upR i)).getD q [] = row := by rw [List.getD_eq_getElem?_getD, List.getElem?_eq_getElem hq, eq]; rfl
    have bdu : Bd B (left.map (upR i)) := by
      intro r hr x hx
      obtain ⟨r0, hr0, rfl⟩ := List.mem_map.mp hr
      unfold upR at hx
      split at hx
      · obtain ⟨x0, hx0, rfl⟩ := List.mem_map.mp hx
        rw [KdM.sz_neg]; exact bd r0 hr0 x0 hx0
      · exact bd r0 hr0 x hx
    obtain ⟨m, o, out, hl, hb⟩ := led_ex hV V (left.map (upR i)) B B q (Nat.le_refl _) shu (fun t ht => by
        obtain ⟨r0, hr0, e0⟩ := List.mem_map.mp (getD_mem [] ht)
        rw [← e0]; exact up_nn i r0) hq (by rw [eq2, col_vec, hv]; exact hy0) (by rw [eq2, col_vec, hv]; exact hyV) bdu (fun t ht => by
        have := bdu.at (c := i) (getD_mem [] ht)
        exact this) (Nat.le_refl _) (by omega)
    have ok := led_spec hl shu
    have ob := ok.lead o rfl
    have zo : ∀ r ∈ o :: out, ∀ c, c < i → vec r c = 0 := fun r hr c hc => by
      have : SpR' (left.map (upR i)) (vec r) := (ok.sp _).mpr (SpR'.mem (by simpa using hr))
      exact this.zero_at fun g ⟨r1, hr1, e1⟩ => by
        subst e1
        obtain ⟨r0, hr0, rfl⟩ := List.mem_map.mp hr1
        exact vec_up_zero (zero r0 hr0 c hc)
    have fo := ok.few
    rw [List.length_map] at fo
    have bd2 : Bd (2 * B + 1 + V * (bl V + 1)) (o :: out) := hb.bd.mono (by omega)
    obtain ⟨l2, left2, hg, gk⟩ := grid_ex hV d (i + 1) (2 * B + 1 + V * (bl V + 1)) (addL (some o) i l) out (by omega) hj hn (by omega) (fun r hr => (ok.zero r hr).1) (fun r hr c hc => by
        by_cases ec : c = i
        · rw [ec]; exact (ok.zero r hr).2
        · exact zo r (List.mem_cons_of_mem _ hr) c (by omega)) (fun r hr => bd2 r (List.mem_cons_of_mem _ hr)) hB' (fun c hc hcj => by
        obtain ⟨y, h0, h1, row, hrow, hone⟩ := one c (by omega) hcj
        refine ⟨y, h0, h1, row, hb.keep row ?_ (by rw [hone.2 i, if_neg (by omega)]), hone⟩
        exact List.mem_map.mpr ⟨row, hrow, up_id (by rw [hone.2 i, if_neg (by omega), Kd.num0]; omega)⟩)
    refine ⟨(i, o) :: l2, left2, ?_, ?_⟩
    · refine .step (by omega) sh hl ?_
      have : l ++ (i, o) :: l2 = addL (some o) i l ++ l2 := by simp [addL]
      rw [this]; exact hg
    · refine ⟨?_, ?_, ?_, ?_, Nat.le_trans gk.few fo, gk.len2, gk.zero, fun v => ?_, ?_⟩
      · show i :: keysL l2 = _
        rw [gk.keys, show j - i = (j - (i + 1)) + 1 by omega]; rfl
      · intro p hp
        rcases List.mem_cons.mp hp with e | e
        · subst e; exact ob.1
        · exact gk.len p e
      · intro p hp
        rcases List.mem_cons.mp hp with e | e
        · subst e; exact ⟨ob.2, hb.le⟩
        · exact gk.lead p e
      · intro p hp
        rcases List.mem_cons.mp hp with e | e
        · subst e; exact zo o List.mem_cons_self
        · exact gk.tri p e
      · rw [← sp_up i left v, ok.sp v]
        exact sp_cons gk.sp v
      · intro r hr
        rcases List.mem_cons.mp hr with e | e
        · subst e
          exact fun x hx => Nat.le_trans (bd2 r List.mem_cons_self x hx) hgm
        · exact gk.bd r e
end
end PU
set_option Elab.async false
set_option linter.all false
set_option maxRecDepth 100000
/-! M5: rows of a triangle. -/
namespace PU
open PySem PySem.Spec PyProof.Rows L2
section
variable {R : Type} [Kd R]
theorem Sp.split {G : (Nat → R) → Prop} {g v : Nat → R} (h : Sp (fun u => u = g ∨ G u) v) : ∃ q, Sp G (fun i => v i - g i * q) := by
  induction h with
  | zero => exact ⟨0, Sp.zero.of_eq fun i => by grind⟩
  | add a _ hg ih =>
    obtain ⟨q, hq⟩ := ih
    rcases hg with e | e
    · subst e
      exact ⟨q + a, hq.of_eq fun i => by grind⟩
    · exact ⟨q, (Sp.add a hq e).of_eq fun i => by grind⟩
/-- leads of the first columns -/
structure TriL (n j V B : Nat) (l : Lds R) : Prop where
  keys : keysL l = List.range j
  len : ∀ p ∈ l, p.2.length = n
  lead : ∀ p ∈ l, 0 < Kd.num (vec p.2 p.1) ∧ Kd.num (vec p.2 p.1) ≤ (V : Int)
  tri : ∀ p ∈ l, ∀ c, c < p.1 → vec p.2 c = 0
  bd : ∀ p ∈ l, ∀ x ∈ p.2, bitsOf (Kd.num x) ≤ B
theorem GridOk.triL {n j V B : Nat} {left left2 : List (List R)} {l : Lds R} (h : GridOk n 0 j V B left l left2) : TriL n j V B l :=
  ⟨by rw [h.keys, Nat.sub_zero, ← List.range_eq_range'], h.len, h.lead, h.tri, fun p hp => h.bd p.2 (List.mem_append_left _ (List.mem_map.mpr ⟨p, hp, rfl⟩))⟩
variable {n j V B : Nat} {l : Lds R} {left : List (List R)}
theorem TriL.asc (h : TriL n j V B l) : Asc l := by
  unfold Asc
  rw [h.keys]; exact List.pairwise_lt_range
theorem TriL.get (h : TriL n j V B l) {c : Nat} (hc : c < j) : ∃ row, lk l c = some row ∧ (c, row) ∈ l := by
  have : c ∈ keysL l := by rw [h.keys]; exact List.mem_range.mpr hc
  obtain ⟨p, hp, e⟩ := List.mem_map.mp this
  subst e
  exact ⟨p.2, h.asc.lk hp, hp⟩
theorem TriL.key (h : TriL n j V B l) {p : Nat × List R} (hp : p ∈ l) : p.1 < j := by
  have : p.1 ∈ keysL l := List.mem_map.mpr ⟨p, hp, rfl⟩
  rw [h.keys] at this
  exact List.mem_range.mp this
theorem TriL.uniq (h : TriL n j V B l) {c : Nat} {row : List R} {p : Nat × List R} (hc : lk l c = some row) (hp : p ∈ l) (e : p.1 = c) : p.2 = row := by
  have := h.asc.lk hp
  rw [e, hc] at this
  exact (Option.some.inj this).symm
/-- what leads from a column on reach, and the rows left -/
def TG (i : Nat) (l : Lds R) (left : List (List R)) : (Nat → R) → Prop := fun v => (∃ p ∈ l, i ≤ p.1 ∧ v = vec p.2) ∨ rG left v
variable [KdM R]
theorem tri_low (h : TriL n j V B l) (hz : ∀ row ∈ left, ∀ c, c < j → vec row c = 0) : ∀ (i : Nat) (v : Nat → R), i ≤ j → SpR' ((l.map fun p => p.2) ++ left) v → (∀ c, c < i → v c = 0) → Sp (TG i l left) v
  | 0, v, _, hs, _ => hs.mono fun g ⟨row, hr, e⟩ => by
    subst e
    rcases List.mem_append.mp hr with m | m
    · obtain ⟨p, hp, rfl⟩ := List.mem_map.mp m
      exact .gen (.inl ⟨p, hp, Nat.zero_le _, rfl⟩)
    · exact .gen (.inr ⟨row, m, rfl⟩)
  | i + 1, v, hi, hs, hv => by
    have k := tri_low h hz i v (by omega) hs fun c hc => hv c (by omega)
    obtain ⟨row, hr, hm⟩ := h.get (show i < j by omega)
    obtain ⟨q, hq⟩ := Sp.split (G := TG (i + 1) l left) (g := vec row) (k.mono fun g hg => by
      rcases hg with ⟨p, hp, hle, e⟩ | hg
      · by_cases z : p.1 = i
        · exact .gen (.inl (by rw [e, h.uniq hr hp z]))
        · exact .gen (.inr (.inl ⟨p, hp, by omega, e⟩))
      · exact .gen (.inr (.inr hg)))
    have z := hq.zero_at (i := i) fun g hg => by
      rcases hg with ⟨p, hp, hle, e⟩ | ⟨r, hr, e⟩
      · rw [e]; exact h.tri p hp i (by omega)
      · rw [e]; exact hz r hr i (by omega)
    have zv := hv i (by omega)
    have : q = 0 := KdM.noz q (vec row i) (h.lead _ hm).1 (by grind)
    subst this
    exact hq.of_eq fun c => by grind
theorem tri_div (h : TriL n j V B l) (hz : ∀ row ∈ left, ∀ c, c < j → vec row c = 0) {i : Nat} {v : Nat → R} (hi : i < j) (hs : SpR' ((l.map fun p => p.2) ++ left) v) (hv : ∀ c, c < i → v c = 0) {row : List R} (hr : lk l i = some row) : ∃ a, v i = a * vec row i := by
  have k := tri_low h hz i v (by omega) hs hv
  obtain ⟨q, hq⟩ := Sp.split (G := TG (i + 1) l left) (g := vec row) (k.mono fun g hg => by
    rcases hg with ⟨p, hp, hle, e⟩ | hg
    · by_cases z : p.1 = i
      · exact .gen (.inl (by rw [e, h.uniq hr hp z]))
      · exact .gen (.inr (.inl ⟨p, hp, by omega, e⟩))
    · exact .gen (.inr (.inr hg)))
  have z := hq.zero_at (i := i) fun g hg => by
    rcases hg with ⟨p, hp, hle, e⟩ | ⟨r, hr, e⟩
    · rw [e]; exact h.tri p hp i (by omega)
    · rw [e]; exact hz r hr i (by omega)
  exact ⟨q, by grind⟩
theorem tri_left (h : TriL n j V B l) (hz : ∀ row ∈ left, ∀ c, c < j → vec row c = 0) {v : Nat → R} (hs : SpR' ((l.map fun p => p.2) ++ left) v) (hv : ∀ c, c < j → v c = 0) : SpR' left v :=
  (tri_low h hz j v (Nat.le_refl _) hs hv).mono fun g hg => by
    rcases hg with ⟨p, hp, hle, e⟩ | hg
    · have := h.key hp; omega
    · exact .gen hg
variable [KdS R]
theorem rem_zero {y : R} (h : 0 < Kd.num y) : Kd.rem 0 y = 0 := by
  have s := (KdS.sz y h).1
  exact (Kd.rem_fix 0 y h).mpr ⟨by rw [Kd.num0]; omega, by rw [Kd.num0]; omega⟩
theorem rem_dvd {a y : R} (h : 0 < Kd.num y) : Kd.rem (a * y) y = 0 := by
  have := Kd.rem_add 0 a y h
  rw [rem_zero h] at this
  rw [← this]
  congr 1
  grind
def wB : Nat → Nat → Nat
  | 0, B => B
  | d + 1, B => wB d (2 * B + 1)
theorem wB_mono : ∀ d B, B ≤ wB d B
  | 0, B => Nat.le_refl B
  | d + 1, B => Nat.le_trans (by omega) (wB_mono d (2 * B + 1))
theorem loc_of {n c B V : Nat} {row lead : List R} (h1 : row.length = n) (h2 : lead.length = n) (h3 : n ≤ 1000) (h4 : c < n) (b1 : ∀ x ∈ row, bitsOf (Kd.num x) ≤ B) (b2 : ∀ x ∈ lead, bitsOf (Kd.num x) ≤ B) (hB : B ≤ 2 ^ 25) (p : 0 < Kd.num (vec lead c)) (hv : Kd.num (vec lead c) ≤ (V : Int)) (hV : bl V ≤ 9000) : LoC n c row lead := by
  have e : bitsOf (Kd.num (col c row)) ≤ B := b1 _ (getD_mem 0 (by omega))
  refine ⟨h1, h2, h3, h4, fun x hx => Nat.le_trans (b2 x hx) hB, Nat.le_trans e hB, p, Nat.le_trans (bits_le (Int.le_of_lt p) hv) hV, ?_⟩
  exact Nat.le_trans (KdM.sz_quo _ _ p) (Nat.le_trans e hB)
theorem low_c {n c B : Nat} {row lead : List R} (h1 : row.length = n) (h2 : lead.length = n) (h4 : c < n) (b1 : ∀ x ∈ row, bitsOf (Kd.num x) ≤ B) (b2 : ∀ x ∈ lead, bitsOf (Kd.num x) ≤ B) (p : 0 < Kd.num (vec lead c)) : (lowC c row lead).length = n ∧ (∀ x ∈ lowC c row lead, bitsOf (Kd.num x) ≤ 2 * B + 1) ∧ (∀ i, vec (lowC c row lead) i = vec row i - vec lead i * Kd.quo (vec row c) (vec lead c)) ∧ vec (lowC c row lead) c = Kd.rem (vec row c) (vec lead c) := by
  have v : ∀ i, vec (lowC c row lead) i = vec row i - vec lead i * Kd.quo (vec row c) (vec lead c) := fun i => vec_low (by omega) i
  refine ⟨?_, ?_, v, ?_⟩
  · show (lowR _ _ _).length = n
    unfold lowR
    rw [List.length_zipWith]; omega
  · have e : bitsOf (Kd.num (col c row)) ≤ B := b1 _ (getD_mem 0 (by omega))
    have := low_bits b1 b2 (Nat.le_trans (KdM.sz_quo (col c row) (col c lead) p) e)
    intro x hx
    have := this x hx
    omega
  · rw [v c]
    have := Kd.quo_rem (vec row c) (vec lead c) p
    grind
/-- a row worked down: it stops at the first column that no lead divides -/
theorem wrk_ex (h : TriL n j V B l) (hV : bl V ≤ 9000) (hn : n ≤ 1000) (hj : j ≤ n) : ∀ (d i B' : Nat) (row : List R), i + d = j → B ≤ B' → row.length = n → (∀ x ∈ row, bitsOf (Kd.num x) ≤ B') → wB d B' ≤ 2 ^ 25 → (∀ c, c < i → vec row c = 0) →
    ∃ out s, Wrk n l j i row out s ∧ out.length = n ∧ (∀ x ∈ out, bitsOf (Kd.num x) ≤ wB d B') ∧ SpR' (l.map fun p => p.2) (fun c => vec row c - vec out c) ∧
      (s = none → ∀ c, c < j → vec out c = 0) ∧ (s ≠ none → ∃ c lead, c < j ∧ lk l c = some lead ∧ 0 < Kd.num (vec lead c) ∧ (∀ e, e < c → vec out e = 0) ∧ Kd.rem (vec out c) (vec lead c) ≠ 0)
  | 0, i, B', row, e, hb, hl, br, hB, hz => by
    have e' : i = j := by omega
    subst e'
    exact ⟨row, none, .fin, hl, br, Sp.zero.of_eq fun c => by grind, fun _ => hz, fun h => absurd rfl h⟩
  | d + 1, i, B', row, e, hb, hl, br, hB, hz => by
    have hgm := wB_mono d (2 * B' + 1)
    have hB' : wB d (2 * B' + 1) ≤ 2 ^ 25 := hB
    obtain ⟨lead, hk, hm⟩ := h.get (show i < j by omega)
    have ll := h.len _ hm
    have lb : ∀ x ∈ lead, bitsOf (Kd.num x) ≤ B' := fun x hx => Nat.le_trans (h.bd _ hm x hx) hb
    have lp := h.lead _ hm
    have loc : LoC n i row lead := loc_of hl ll hn (by omega) br lb (by omega) lp.1 lp.2 hV
    obtain ⟨w1, w2, w3, w4⟩ := low_c hl ll (by omega) br lb lp.1
    by_cases z : Kd.num (Kd.rem (col i row) (col i lead)) = 0
    · obtain ⟨out, s, hw, k1, k2, k3, k4, k5⟩ := wrk_ex h hV hn hj d (i + 1) (2 * B' + 1) (lowC i row lead) (by omega) (by omega) w1 w2 hB' fun c hc => by
        by_cases ec : c = i
        · rw [ec, w4]; exact num_zero z
        · rw [w3, hz c (by omega), h.tri _ hm c (show c < i by omega)]; grind
      refine ⟨out, s, .low (by omega) hk loc z hw, k1, k2, ?_, k4, k5⟩
      have g : SpR' (l.map fun p => p.2) (vec lead) := SpR'.mem (List.mem_map.mpr ⟨_, hm, rfl⟩)
      exact (k3.sum (g.smul (Kd.quo (vec row i) (vec lead i)))).of_eq fun c => by rw [w3]; grind
    · refine ⟨row, some i, .halt (by omega) hl (by omega) (fun lead' hk' => ?_) ?_, hl, fun x hx => by have := br x hx; show _ ≤ wB d (2 * B' + 1); omega, Sp.zero.of_eq (fun c => by grind), (fun h => by cases h), fun _ => ⟨i, lead, by omega, hk, lp.1, hz, fun e => z (by rw [show Kd.rem (col i row) (col i lead) = 0 from e, Kd.num0])⟩⟩
      · rw [hk] at hk'
        cases hk'
        exact ⟨loc, z⟩
      · intro e0
        rw [num_zero e0, show Kd.rem 0 (col i lead) = 0 from rem_zero lp.1, Kd.num0] at z
        exact z rfl
/-- a row rested -/
theorem rst_ex (h : TriL n j V B l) (hV : bl V ≤ 9000) (hn : n ≤ 1000) (hj : j ≤ n) : ∀ (cs : List Nat) (B' : Nat) (row : List R), (∀ c ∈ cs, c < j) → B ≤ B' → row.length = n → (∀ x ∈ row, bitsOf (Kd.num x) ≤ B') → wB cs.length B' ≤ 2 ^ 25 → ∃ out, Rst n l cs row out
  | [], _, row, _, _, _, _, _ => ⟨row, .stop⟩
  | c :: cs, B', row, hc, hb, hl, br, hB => by
    have hB' : wB cs.length (2 * B' + 1) ≤ 2 ^ 25 := hB
    have hgm := wB_mono cs.length (2 * B' + 1)
    have cj := hc c List.mem_cons_self
    obtain ⟨lead, hk, hm⟩ := h.get cj
    have ll := h.len _ hm
    have lb : ∀ x ∈ lead, bitsOf (Kd.num x) ≤ B' := fun x hx => Nat.le_trans (h.bd _ hm x hx) hb
    have lp := h.lead _ hm
    have loc : LoC n c row lead := loc_of hl ll hn (by omega) br lb (by omega) lp.1 lp.2 hV
    obtain ⟨w1, w2, w3, w4⟩ := low_c hl ll (by omega) br lb lp.1
    obtain ⟨out, ho⟩ := rst_ex h hV hn hj cs (2 * B' + 1) (lowC c row lead) (fun e he => hc e (List.mem_cons_of_mem _ he)) (by omega) w1 w2 hB'
    exact ⟨out, .step hk loc ho⟩
/-! ### tidied -/
def dgL (l : Lds R) : List R := l.map fun q => col q.1 q.2
theorem tdi_ex (hV : bl V ≤ 9000) (hn : n ≤ 1000) (hj : j ≤ n) {c : Nat} (hc : c < j) : ∀ (es : List Nat) (B : Nat) (l : Lds R), TriL n j V B l → (∀ e ∈ es, e < c) → wB es.length B ≤ 2 ^ 25 → ∃ out, TdI n c es l out ∧ TriL n j V (wB es.length B) out ∧ dgL out = dgL l
  | [], B, l, h, _, _ => ⟨l, .stop, h, rfl⟩
  | e :: es, B, l, h, he, hB => by
    have hB' : wB es.length (2 * B + 1) ≤ 2 ^ 25 := hB
    have hgm := wB_mono es.length (2 * B + 1)
    have ec := he e List.mem_cons_self
    obtain ⟨lead, hk, hm⟩ := h.get hc
    obtain ⟨row, hk2, hm2⟩ := h.get (show e < j by omega)
    have lp := h.lead _ hm
    have loc : LoC n c row lead := loc_of (h.len _ hm2) (h.len _ hm) hn (by omega) (h.bd _ hm2) (h.bd _ hm) (by omega) lp.1 lp.2 hV
    obtain ⟨w1, w2, w3, w4⟩ := low_c (h.len _ hm2) (h.len _ hm) (show c < n by omega) (h.bd _ hm2) (h.bd _ hm) lp.1
    have ve : vec (lowC c row lead) e = vec row e := by
      rw [w3, h.tri _ hm e ec]; grind
    have mem : ∀ p ∈ setL l e (lowC c row lead), p ∈ l ∨ p = (e, lowC c row lead) := fun p hp => by
      unfold setL at hp
      obtain ⟨q, hq, rfl⟩ := List.mem_map.mp hp
      by_cases z : q.1 = e
      · rw [if_pos z, z]; exact .inr rfl
      · rw [if_neg z]; exact .inl hq
    have tr : TriL n j V (2 * B + 1) (setL l e (lowC c row lead)) := by
      refine ⟨by rw [setL_keys]; exact h.keys, fun p hp => ?_, fun p hp => ?_, fun p hp => ?_, fun p hp => ?_⟩
      · rcases mem p hp with m | m
        · exact h.len p m
        · subst m; exact w1
      · rcases mem p hp with m | m
        · exact h.lead p m
        · subst m
          show 0 < Kd.num (vec (lowC c row lead) e) ∧ Kd.num (vec (lowC c row lead) e) ≤ (V : Int)
          rw [ve]; exact h.lead _ hm2
      · rcases mem p hp with m | m
        · exact h.tri p m
        · subst m
          intro x hx
          have hx' : x < e := hx
          show vec (lowC c row lead) x = 0
          rw [w3, h.tri _ hm2 x hx', h.tri _ hm x (show x < c by omega)]; grind
      · rcases mem p hp with m | m
        · intro x hx
          have := h.bd p m x hx
          omega
        · subst m; exact w2
    have dg : dgL (setL l e (lowC c row lead)) = dgL l := by
      unfold dgL setL
      rw [List.map_map]
      apply List.map_congr_left
      intro q hq
      show col (if q.1 = e then (q.1, lowC c row lead) else q).1 (if q.1 = e then (q.1, lowC c row lead) else q).2 = col q.1 q.2
      by_cases z : q.1 = e
      · rw [if_pos z]
        show vec (lowC c row lead) q.1 = vec q.2 q.1
        rw [h.uniq hk2 hq z, z, ve]
      · rw [if_neg z]
    obtain ⟨out, k1, k2, k3⟩ := tdi_ex hV hn hj hc es (2 * B + 1) _ tr (fun x hx => he x (List.mem_cons_of_mem _ hx)) hB'
    exact ⟨out, .step hk2 hk loc k1, k2, k3.trans dg⟩
theorem wB_add : ∀ a b B, wB a (wB b B) = wB (b + a) B
  | a, 0, B => by rw [Nat.zero_add]; rfl
  | a, b + 1, B => by
    show wB a (wB b (2 * B + 1)) = _
    rw [wB_add a b, show b + 1 + a = (b + a) + 1 by omega]; rfl
def sm : Nat → Nat → Nat
  | 0, _ => 0
  | d + 1, i => i + sm d (i + 1)
theorem tdo_ex (hV : bl V ≤ 9000) (hn : n ≤ 1000) (hj : j ≤ n) : ∀ (d i B : Nat) (l : Lds R), i + d = j → TriL n j V B l → wB (sm d i) B ≤ 2 ^ 25 → ∃ out, TdO n (List.range j) i l out ∧ TriL n j V (wB (sm d i) B) out ∧ dgL out = dgL l
  | 0, i, B, l, e, h, _ => by
    have e' : i = (List.range j).length := by rw [List.length_range]; omega
    subst e'
    exact ⟨l, .stop, h, rfl⟩
  | d + 1, i, B, l, e, h, hB => by
    have e2 : wB (sm d (i + 1)) (wB i B) = wB (sm (d + 1) i) B := wB_add _ _ _
    have htake : (List.range j).take i = List.range i := by
      rw [List.take_range]; congr 1; omega
    have hgm := wB_mono (sm d (i + 1)) (wB i B)
    obtain ⟨mid, m1, m2, m3⟩ := tdi_ex hV hn hj (c := i) (by omega) (List.range i) B l h (fun e he => List.mem_range.mp he) (by rw [List.length_range]; omega)
    rw [List.length_range] at m2
    obtain ⟨out, k1, k2, k3⟩ := tdo_ex hV hn hj d (i + 1) (wB i B) mid (by omega) m2 (by omega)
    rw [e2] at k2
    exact ⟨out, .step (List.getElem?_range (by omega)) (by rw [htake]; exact m1) k1, k2, k3.trans m3⟩
end
end PU
set_option Elab.async false
set_option linter.all false
set_option maxRecDepth 100000
/-! M6: what reaching rows reach. -/
namespace PU
open PySem PySem.Spec PyProof.Rows L2
section
variable {R : Type} [Kd R]
def sumR : Nat → (Nat → R) → R
  | 0, _ => 0
  | k + 1, f => sumR k f + f k
theorem sumR_congr {f g : Nat → R} : ∀ {k : Nat}, (∀ j, j < k → f j = g j) → sumR k f = sumR k g
  | 0, _ => rfl
  | k + 1, h => by
    show sumR k f + f k = sumR k g + g k
    rw [sumR_congr fun j hj => h j (by omega), h k (by omega)]
theorem sumR_lin (A v g : Nat → R) (q : R) : ∀ k, sumR k (fun j => A j * (v j + g j * q)) = sumR k (fun j => A j * v j) + sumR k (fun j => A j * g j) * q
  | 0 => by show (0 : R) = 0 + 0 * q; grind
  | k + 1 => by
    show sumR k _ + _ = (sumR k _ + _) + (sumR k _ + _) * q
    rw [sumR_lin A v g q k]; grind
theorem sumR_zero : ∀ k, sumR k (fun _ => (0 : R)) = 0
  | 0 => rfl
  | k + 1 => by
    show sumR k _ + 0 = (0 : R)
    rw [sumR_zero k]; grind
theorem sumR_one (f : Nat → R) (j0 : Nat) : ∀ k, sumR k (fun j => if j = j0 then f j else 0) = if j0 < k then f j0 else 0
  | 0 => by rw [if_neg (by omega)]; rfl
  | k + 1 => by
    show sumR k _ + _ = _
    rw [sumR_one f j0 k]
    show _ + (if k = j0 then f k else 0) = _
    by_cases z : k = j0
    · rw [if_pos z, if_neg (by omega), if_pos (by omega), z]; grind
    · rw [if_neg z]
      by_cases y : j0 < k
      · rw [if_pos y, if_pos (by omega)]; grind
      · rw [if_neg y, if_neg (by omega)]; grind
theorem sp_sum {G : (Nat → R) → Prop} (T : Nat → Nat → R) (a : Nat → R) : ∀ k, (∀ j, j < k → G (T j)) → Sp G (fun i => sumR k (fun j => T j i * a j))
  | 0, _ => .zero
  | k + 1, h => (Sp.add (a k) (sp_sum T a k fun j hj => h j (by omega)) (h k (by omega))).of_eq fun i => rfl
def topV (m : Nat) (A : Nat → Nat → R) (j : Nat) : Nat → R := fun i => if i < m then A i j else if i = m + j then 1 else 0
def oneV (b : Nat) (y : R) : Nat → R := fun i => if i = b then y else 0
/-- rows that reach -/
structure Lat (m k : Nat) (A : Nat → Nat → R) (y : Nat → R) (rows : List (List R)) : Prop where
  top : ∀ j, j < k → ∃ row ∈ rows, vec row = topV m A j
  bot : ∀ b, b < m → ∃ row ∈ rows, vec row = oneV b (y b)
  only : ∀ row ∈ rows, (∃ j, j < k ∧ vec row = topV m A j) ∨ ∃ b, b < m ∧ vec row = oneV b (y b)
def LatV (m k : Nat) (A : Nat → Nat → R) (y : Nat → R) (v : Nat → R) : Prop := (∀ b, b < m → ∃ a, v b = sumR k (fun j => A b j * v (m + j)) + a * y b) ∧ ∀ i, m + k ≤ i → v i = 0
variable {m k : Nat} {A : Nat → Nat → R} {y : Nat → R} {rows : List (List R)}
theorem LatV.add {v g : Nat → R} (q : R) (h : LatV m k A y v) (h2 : LatV m k A y g) : LatV m k A y (fun i => v i + g i * q) := by
  refine ⟨fun b hb => ?_, fun i hi => ?_⟩
  · obtain ⟨a, ha⟩ := h.1 b hb
    obtain ⟨c, hc⟩ := h2.1 b hb
    refine ⟨a + c * q, ?_⟩
    show v b + g b * q = sumR k (fun j => A b j * (v (m + j) + g (m + j) * q)) + _
    rw [sumR_lin (A b) (fun j => v (m + j)) (fun j => g (m + j)) q k]
    grind
  · show v i + g i * q = 0
    rw [h.2 i hi, h2.2 i hi]; grind
theorem latV_top {j : Nat} (hj : j < k) : LatV m k A y (topV m A j) := by
  refine ⟨fun b hb => ⟨0, ?_⟩, fun i hi => ?_⟩
  · have : sumR k (fun j' => A b j' * topV m A j (m + j')) = sumR k (fun j' => if j' = j then A b j' else 0) := sumR_congr fun j' hj' => by
      unfold topV
      rw [if_neg (by omega)]
      by_cases z : j' = j
      · rw [if_pos (by omega), if_pos z]; grind
      · rw [if_neg (by omega), if_neg z]; grind
    rw [this, sumR_one, if_pos hj]
    unfold topV
    rw [if_pos hb]; grind
  · unfold topV
    rw [if_neg (by omega), if_neg (by omega)]
theorem latV_bot {b : Nat} (hb : b < m) : LatV m k A y (oneV b (y b)) := by
  refine ⟨fun c hc => ⟨if c = b then 1 else 0, ?_⟩, fun i hi => ?_⟩
  · have : sumR k (fun j => A c j * oneV b (y b) (m + j)) = sumR k (fun _ => 0) := sumR_congr fun j hj => by
      unfold oneV
      rw [if_neg (by omega)]; grind
    rw [this, sumR_zero]
    unfold oneV
    by_cases z : c = b
    · subst z; rw [if_pos rfl, if_pos rfl]; grind
    · rw [if_neg z, if_neg z]; grind
  · unfold oneV
    rw [if_neg (by omega)]
theorem lat_iff (h : Lat m k A y rows) (v : Nat → R) : SpR' rows v ↔ LatV m k A y v := by
  constructor
  · intro hs
    induction hs with
    | zero =>
      refine ⟨fun b hb => ⟨0, ?_⟩, fun i hi => rfl⟩
      have : sumR k (fun j => A b j * (0 : R)) = sumR k (fun _ => 0) := sumR_congr fun j hj => by grind
      rw [this, sumR_zero]; grind
    | add q _ hg ih =>
      obtain ⟨row, hr, e⟩ := hg
      subst e
      refine ih.add q ?_
      rcases h.only row hr with ⟨j, hj, e⟩ | ⟨b, hb, e⟩
      · rw [e]; exact latV_top hj
      · rw [e]; exact latV_bot hb
  · intro ⟨h1, h2⟩
    have ha : ∃ a : Nat → R, ∀ b, b < m → v b = sumR k (fun j => A b j * v (m + j)) + a b * y b := by
      refine ⟨fun b => if hb : b < m then Classical.choose (h1 b hb) else 0, fun b hb => ?_⟩
      have := Classical.choose_spec (h1 b hb)
      simp only [dif_pos hb]
      exact this
    obtain ⟨a, ha⟩ := ha
    have s1 : SpR' rows (fun i => sumR k (fun j => topV m A j i * v (m + j))) := sp_sum (topV m A) (fun j => v (m + j)) k fun j hj => by
      obtain ⟨row, hr, e⟩ := h.top j hj
      exact ⟨row, hr, e.symm⟩
    have s2 : SpR' rows (fun i => sumR m (fun b => oneV b (y b) i * a b)) := sp_sum (fun b => oneV b (y b)) a m fun b hb => by
      obtain ⟨row, hr, e⟩ := h.bot b hb
      exact ⟨row, hr, e.symm⟩
    refine (s1.sum s2).of_eq fun i => ?_
    show sumR k (fun j => topV m A j i * v (m + j)) + sumR m (fun b => oneV b (y b) i * a b) = v i
    have e2 : sumR m (fun b => oneV b (y b) i * a b) = if i < m then y i * a i else 0 := by
      rw [← sumR_one (fun b => y b * a b) i m]
      refine sumR_congr fun b hb => ?_
      unfold oneV
      by_cases z : i = b
      · rw [if_pos z, if_pos z.symm]
      · rw [if_neg z, if_neg (Ne.symm z)]; grind
    rw [e2]
    by_cases hi : i < m
    · rw [if_pos hi, ha i hi]
      have : sumR k (fun j => topV m A j i * v (m + j)) = sumR k (fun j => A i j * v (m + j)) := sumR_congr fun j hj => by
        unfold topV
        rw [if_pos hi]
      rw [this]; grind
    · rw [if_neg hi]
      have : sumR k (fun j => topV m A j i * v (m + j)) = sumR k (fun j => if j = i - m then v (m + j) else 0) := sumR_congr fun j hj => by
        unfold topV
        rw [if_neg hi]
        by_cases z : j = i - m
        · rw [if_pos (by omega), if_pos z]; grind
        · rw [if_neg (by omega), if_neg z]; grind
      rw [this, sumR_one]
      by_cases z : i - m < k
      · rw [if_pos z, show m + (i - m) = i by omega]; grind
      · rw [if_neg z, h2 i (by omega)]; grind
/-! ### what leaves the totals as they are -/
def KerV (m k : Nat) (A : Nat → Nat → R) (y : Nat → R) (x : Nat → R) : Prop := (∀ b, b < m → ∃ a, sumR k (fun j => A b j * x j) = a * y b) ∧ ∀ i, k ≤ i → x i = 0
theorem KerV.add {v g : Nat → R} (q : R) (h : KerV m k A y v) (h2 : KerV m k A y g) : KerV m k A y (fun i => v i + g i * q) := by
  refine ⟨fun b hb => ?_, fun i hi => ?_⟩
  · obtain ⟨a, ha⟩ := h.1 b hb
    obtain ⟨c, hc⟩ := h2.1 b hb
    refine ⟨a + c * q, ?_⟩
    rw [sumR_lin (A b) v g q k, ha, hc]
    grind
  · show v i + g i * q = 0
    rw [h.2 i hi, h2.2 i hi]; grind
theorem vec_drop (m : Nat) (row : List R) (i : Nat) : vec (row.drop m) i = vec row (m + i) := by
  unfold vec
  rw [List.getD_eq_getElem?_getD, List.getD_eq_getElem?_getD, List.getElem?_drop]
theorem sp_drop (m : Nat) {still : List (List R)} {v : Nat → R} (h : SpR' still v) : SpR' (still.map fun r => r.drop m) (fun i => v (m + i)) := by
  induction h with
  | zero => exact .zero
  | add q _ hg ih =>
    obtain ⟨row, hr, e⟩ := hg
    subst e
    exact (Sp.add q ih ⟨row.drop m, List.mem_map.mpr ⟨row, hr, rfl⟩, rfl⟩).of_eq fun i => by rw [vec_drop]
theorem vec_whole {p : R} {k : Nat} {row : List R} (h : row ∈ wholeR p k) : ∃ j, j < k ∧ row.length = k ∧ vec row = oneV j p := by
  unfold wholeR at h
  obtain ⟨j, hj, rfl⟩ := List.mem_map.mp h
  have hj' := List.mem_range.mp hj
  refine ⟨j, hj', by rw [List.length_map, List.length_range], funext fun i => ?_⟩
  unfold vec oneV
  rw [List.getD_eq_getElem?_getD, List.getElem?_map]
  rcases Nat.lt_or_ge i k with l | l
  · rw [List.getElem?_range l]
    show (if j = i then p else 0) = _
    by_cases z : i = j
    · rw [if_pos z, if_pos z.symm]
    · rw [if_neg z, if_neg (Ne.symm z)]
  · rw [List.getElem?_eq_none (by rw [List.length_range]; exact l), if_neg (by omega)]; rfl
theorem whole_mem {p : R} {k j : Nat} (h : j < k) : ∃ row ∈ wholeR p k, row.length = k ∧ vec row = oneV j p := by
  have hm : ((List.range k).map fun i => if j = i then p else 0) ∈ wholeR p k := List.mem_map.mpr ⟨j, List.mem_range.mpr h, rfl⟩
  refine ⟨_, hm, by rw [List.length_map, List.length_range], funext fun i => ?_⟩
  unfold vec oneV
  rw [List.getD_eq_getElem?_getD, List.getElem?_map]
  rcases Nat.lt_or_ge i k with l | l
  · rw [List.getElem?_range l]
    show (if j = i then p else 0) = _
    by_cases z : i = j
    · rw [if_pos z, if_pos z.symm]
    · rw [if_neg z, if_neg (Ne.symm z)]
  · rw [List.getElem?_eq_none (by rw [List.length_range]; exact l), if_neg (by omega)]; rfl
theorem ker_iff {p : R} {still : List (List R)} (h : Lat m k A y rows) (hs : ∀ v, SpR' still v ↔ SpR' rows v ∧ ∀ c, c < m → v c = 0) (hp : ∀ b, b < m → ∃ a, p = a * y b) (x : Nat → R) : SpR' ((still.map fun r => r.drop m) ++ wholeR p k) x ↔ KerV m k A y x := by
  constructor
  · intro hx
    induction hx with
    | zero =>
      refine ⟨fun b hb => ⟨0, ?_⟩, fun i hi => rfl⟩
      have : sumR k (fun j => A b j * (0 : R)) = sumR k (fun _ => 0) := sumR_congr fun j hj => by grind
      rw [this, sumR_zero]; grind
    | add q _ hg ih =>
      obtain ⟨row, hr, e⟩ := hg
      subst e
      refine ih.add q ?_
      rcases List.mem_append.mp hr with z | z
      · obtain ⟨r, hr', rfl⟩ := List.mem_map.mp z
        obtain ⟨h1, h2⟩ := (hs (vec r)).mp (SpR'.mem hr')
        obtain ⟨h3, h4⟩ := (lat_iff h _).mp h1
        refine ⟨fun b hb => ?_, fun i hi => by rw [vec_drop]; exact h4 _ (by omega)⟩
        obtain ⟨a, ha⟩ := h3 b hb
        rw [h2 b hb] at ha
        refine ⟨-a, ?_⟩
        have : sumR k (fun j => A b j * vec (r.drop m) j) = sumR k (fun j => A b j * vec r (m + j)) := sumR_congr fun j hj => by rw [vec_drop]
        rw [this]; grind
      · obtain ⟨j, hj, _, e⟩ := vec_whole z
        rw [e]
        refine ⟨fun b hb => ?_, fun i hi => by unfold oneV; rw [if_neg (by omega)]⟩
        obtain ⟨a, ha⟩ := hp b hb
        have : sumR k (fun i => A b i * oneV j p i) = sumR k (fun i => if i = j then A b i * p else 0) := sumR_congr fun i hi => by
          unfold oneV
          by_cases z : i = j
          · rw [if_pos z, if_pos z]
          · rw [if_neg z, if_neg z]; grind
        rw [this, sumR_one, if_pos hj]
        exact ⟨A b j * a, by rw [ha]; grind⟩
  · intro ⟨h1, h2⟩
    have hv : SpR' still (fun i => if i < m then 0 else x (i - m)) := by
      refine (hs _).mpr ⟨(lat_iff h _).mpr ⟨fun b hb => ?_, fun i hi => ?_⟩, fun c hc => by rw [if_pos hc]⟩
      · obtain ⟨a, ha⟩ := h1 b hb
        refine ⟨-a, ?_⟩
        show (if b < m then 0 else x (b - m)) = sumR k (fun j => A b j * (if m + j < m then 0 else x (m + j - m))) + -a * y b
        rw [if_pos hb]
        have : sumR k (fun j => A b j * (if m + j < m then 0 else x (m + j - m))) = sumR k (fun j => A b j * x j) := sumR_congr fun j hj => by
          rw [if_neg (by omega), show m + j - m = j by omega]
        rw [this, ha]; grind
      · show (if i < m then 0 else x (i - m)) = 0
        rw [if_neg (by omega)]; exact h2 _ (by omega)
    have := sp_drop m hv
    refine (this.of_eq (u := x) fun i => ?_).mono fun g ⟨row, hr, e⟩ => ?_
    · show (if m + i < m then 0 else x (m + i - m)) = x i
      rw [if_neg (by omega), show m + i - m = i by omega]
    · subst e; exact SpR'.mem (List.mem_append_left _ hr)
end
end PU
set_option Elab.async false
set_option linter.all false
set_option maxRecDepth 100000
/-! M7: boxes, and products. -/
namespace PU
open PySem PySem.Spec PyProof.Rows L2
theorem len_of_mem {α : Type} [DecidableEq α] : ∀ {xs ys : List α}, xs.Nodup → ys.Nodup → (∀ n, n ∈ xs ↔ n ∈ ys) → xs.length = ys.length
  | [], ys, _, _, h => by
    cases ys with
    | nil => rfl
    | cons y ys => exact absurd ((h y).mpr List.mem_cons_self) (by simp)
  | x :: xs, ys, h1, h2, h => by
    have hx : x ∈ ys := (h x).mp List.mem_cons_self
    have n1 := List.nodup_cons.mp h1
    have := len_of_mem n1.2 (h2.erase x) fun n => by
      rw [List.Nodup.mem_erase_iff h2, ← h n, List.mem_cons]
      exact ⟨fun m => ⟨fun e => n1.1 (e ▸ m), .inr m⟩, fun m => m.2.elim (fun e => absurd e m.1) id⟩
    rw [List.length_cons, this, List.length_erase_of_mem hx]
    have := List.length_pos_of_mem hx
    omega
def Box : List Nat → List Nat → Prop
  | [], [] => True
  | s :: ss, i :: u => i < s ∧ Box ss u
  | [], _ :: _ => False
  | _ :: _, [] => False
theorem box_fold : ∀ (ss : List Nat) (rows : List (List Nat)) (t : List Nat), t ∈ ss.foldl stepT rows ↔ ∃ r ∈ rows, ∃ u, Box ss u ∧ t = r ++ u
  | [], rows, t => by
    constructor
    · intro h
      exact ⟨t, h, [], trivial, (List.append_nil t).symm⟩
    · rintro ⟨r, hr, u, hu, rfl⟩
      cases u with
      | nil => rw [List.append_nil]; exact hr
      | cons _ _ => exact hu.elim
  | s :: ss, rows, t => by
    rw [List.foldl_cons, box_fold ss]
    constructor
    · rintro ⟨r, hr, u, hu, rfl⟩
      unfold stepT at hr
      obtain ⟨r0, h0, h1⟩ := List.mem_flatMap.mp hr
      obtain ⟨i, hi, rfl⟩ := List.mem_map.mp h1
      exact ⟨r0, h0, i :: u, ⟨List.mem_range.mp hi, hu⟩, by simp⟩
    · rintro ⟨r, hr, u, hu, rfl⟩
      cases u with
      | nil => exact hu.elim
      | cons i u => exact ⟨r ++ [i], List.mem_flatMap.mpr ⟨r, hr, List.mem_map.mpr ⟨i, List.mem_range.mpr hu.1, rfl⟩⟩, u, hu.2, by simp⟩
theorem mem_tot {ss t : List Nat} : t ∈ totT ss ↔ Box ss t := by
  unfold totT
  rw [box_fold]
  constructor
  · rintro ⟨r, hr, u, hu, rfl⟩
    rw [List.mem_singleton] at hr
    subst hr; exact hu
  · intro h; exact ⟨[], by simp, t, h, rfl⟩
theorem nodup_step {rows : List (List Nat)} {c s : Nat} (hl : ∀ r ∈ rows, r.length = c) (h : rows.Nodup) : (stepT rows s).Nodup := by
  unfold stepT
  induction rows with
  | nil => exact List.nodup_nil
  | cons r rows ih =>
    have n := List.nodup_cons.mp h
    rw [List.flatMap_cons, List.nodup_append]
    refine ⟨?_, ih (fun r hr => hl r (List.mem_cons_of_mem _ hr)) n.2, fun a ha b hb e => ?_⟩
    · refine List.Pairwise.map _ (R := fun a b => a ≠ b) (fun a b hne e => hne ?_) List.nodup_range
      have := List.append_cancel_left e
      simpa using this
    · subst e
      obtain ⟨i, _, rfl⟩ := List.mem_map.mp ha
      obtain ⟨r2, h2, hb⟩ := List.mem_flatMap.mp hb
      obtain ⟨j, _, e⟩ := List.mem_map.mp hb
      have l1 := hl r List.mem_cons_self
      have l2 := hl r2 (List.mem_cons_of_mem _ h2)
      have := (List.append_inj e (by omega)).1
      exact n.1 (this ▸ h2)
theorem nodup_fold : ∀ (ss : List Nat) (rows : List (List Nat)) (c : Nat), (∀ r ∈ rows, r.length = c) → rows.Nodup → (ss.foldl stepT rows).Nodup
  | [], _, _, _, h => h
  | s :: ss, rows, c, hl, h => by
    rw [List.foldl_cons]
    refine nodup_fold ss _ (c + 1) (fun r m => ?_) (nodup_step hl h)
    unfold stepT at m
    obtain ⟨r', m1, m2⟩ := List.mem_flatMap.mp m
    obtain ⟨n, _, rfl⟩ := List.mem_map.mp m2
    rw [List.length_append, hl r' m1]; rfl
theorem nodup_tot (ss : List Nat) : (totT ss).Nodup := nodup_fold ss [[]] 0 (by simp) (by simp)
theorem Box.len : ∀ {ss u : List Nat}, Box ss u → u.length = ss.length
  | [], [], _ => rfl
  | s :: ss, i :: u, h => by rw [List.length_cons, List.length_cons, h.2.len]
  | [], _ :: _, h => h.elim
  | _ :: _, [], h => h.elim
theorem box_iff : ∀ {ss u : List Nat}, Box ss u ↔ u.length = ss.length ∧ ∀ i, i < ss.length → u.getD i 0 < ss.getD i 0
  | [], [] => ⟨fun _ => ⟨rfl, fun i hi => by cases hi⟩, fun _ => trivial⟩
  | [], _ :: _ => ⟨fun h => h.elim, fun h => by cases h.1⟩
  | _ :: _, [] => ⟨fun h => h.elim, fun h => by cases h.1⟩
  | s :: ss, i :: u => by
    show i < s ∧ Box ss u ↔ _
    rw [box_iff (ss := ss)]
    constructor
    · rintro ⟨h1, h2, h3⟩
      refine ⟨by rw [List.length_cons, List.length_cons, h2], fun j hj => ?_⟩
      cases j with
      | zero => exact h1
      | succ j => exact h3 j (by simpa using hj)
    · rintro ⟨h1, h2⟩
      refine ⟨h2 0 (by simp), by simpa using h1, fun j hj => h2 (j + 1) (by simpa using hj)⟩
section
variable {R : Type} [Kd R]
theorem prod_cho (p : R) : ∀ (ds : List R), (∀ d ∈ ds, cho p d * Kd.size d = Kd.size p) → prodN (ds.map (cho p)) * prodN (ds.map Kd.size) = Kd.size p ^ ds.length
  | [], _ => rfl
  | d :: ds, h => by
    have ih := prod_cho p ds fun d hd => h d (List.mem_cons_of_mem _ hd)
    have e := h d List.mem_cons_self
    show (cho p d * prodN (ds.map (cho p))) * (Kd.size d * prodN (ds.map Kd.size)) = Kd.size p ^ (ds.length + 1)
    rw [Nat.mul_mul_mul_comm, e, ih, Nat.pow_succ, Nat.mul_comm]
variable [KdM R] [KdS R]
theorem cho_dvd {p d a : R} (hd : 0 < Kd.num d) (hp : 0 < Kd.num p) (e : p = a * d) : Kd.num d ≤ Kd.num p ∧ cho p d * Kd.size d = Kd.size p ∧ 0 < cho p d := by
  have h := KdM.dvd_le a d hd (by rw [← e]; exact hp)
  have hs := Kd.size_mul a d h.2 hd (by rw [← e]; exact hp)
  rw [← e] at hs h
  have s1 := (KdS.sz d hd).1
  have s2 := (KdS.sz a h.2).1
  have c : cho p d = Kd.size a := by
    unfold cho
    rw [hs]; exact Nat.mul_div_cancel _ s1
  exact ⟨h.1, by rw [c, hs], by rw [c]; exact s2⟩
theorem rem_size (x : R) {y : R} (h : 0 < Kd.num y) : 0 ≤ Kd.num (Kd.rem x y) ∧ Kd.num (Kd.rem x y) < Kd.size y := by
  refine (Kd.rem_fix (Kd.rem x y) y h).mp ?_
  have e := Kd.quo_rem x y h
  have := Kd.rem_add (Kd.rem x y) (Kd.quo x y) y h
  rw [← this, show Kd.rem x y + Kd.quo x y * y = x from by rw [Lean.Grind.CommRing.toCommSemiring.add_comm]; exact e.symm]
theorem of_num {x : R} {n : Nat} (h : Kd.num x = (n : Int)) : x = Kd.of n := Kd.inj (by rw [h, Kd.num_of])
theorem of_zero : (Kd.of 0 : R) = 0 := Kd.inj (by rw [Kd.num_of, Kd.num0]; rfl)
end
end PU
set_option Elab.async false
set_option linter.all false
set_option maxRecDepth 100000
/-! M8: the totals that can be reached are counted. -/
namespace PU
open PySem PySem.Spec PyProof.Rows L2
section
variable {R : Type} [Kd R] [KdM R] [KdS R]
variable {m k V B : Nat} {A : Nat → Nat → R} {y : Nat → R} {l : Lds R} {left : List (List R)}
theorem reduce_ex (h : TriL k k V B l) : ∀ (d i : Nat) (x : Nat → R), i + d = k → (∀ c lead, c < i → lk l c = some lead → Kd.rem (x c) (vec lead c) = x c) → ∃ x' : Nat → R, SpR' (l.map fun p => p.2) (fun c => x c - x' c) ∧ ∀ c lead, c < k → lk l c = some lead → Kd.rem (x' c) (vec lead c) = x' c
  | 0, i, x, e, hx => ⟨x, Sp.zero.of_eq fun c => by grind, fun c lead hc hl => hx c lead (by omega) hl⟩
  | d + 1, i, x, e, hx => by
    obtain ⟨lead, hk, hm⟩ := h.get (show i < k by omega)
    have lp := (h.lead _ hm).1
    have hri : x i - vec lead i * Kd.quo (x i) (vec lead i) = Kd.rem (x i) (vec lead i) := by
      have := Kd.quo_rem (x i) (vec lead i) lp
      grind
    obtain ⟨x', k1, k2⟩ := reduce_ex h d (i + 1) (fun c => x c - vec lead c * Kd.quo (x i) (vec lead i)) (by omega) fun c ld hc hl => by
      show Kd.rem (x c - vec lead c * Kd.quo (x i) (vec lead i)) (vec ld c) = x c - vec lead c * Kd.quo (x i) (vec lead i)
      by_cases z : c = i
      · subst z
        rw [hk] at hl
        cases hl
        rw [hri]
        exact (Kd.rem_fix _ _ lp).mpr (rem_size (x c) lp)
      · rw [h.tri _ hm c (show c < i by omega), show x c - 0 * Kd.quo (x i) (vec lead i) = x c from by grind]
        exact hx c ld (by omega) hl
    have g : SpR' (l.map fun p => p.2) (vec lead) := SpR'.mem (List.mem_map.mpr ⟨_, hm, rfl⟩)
    exact ⟨x', (k1.sum (g.smul (Kd.quo (x i) (vec lead i)))).of_eq fun c => by grind, k2⟩
def sumA (k : Nat) (A : Nat → Nat → R) (b : Nat) (x : Nat → R) : R := sumR k fun j => A b j * x j
def totA (m k : Nat) (A : Nat → Nat → R) (y : Nat → R) (a : List Nat) : List Nat := (List.range m).map fun b => (Kd.num (Kd.rem (sumA k A b fun j => Kd.of (a.getD j 0)) (y b))).toNat
theorem totA_get {a : List Nat} {b : Nat} (hb : b < m) : (totA m k A y a).getD b 0 = (Kd.num (Kd.rem (sumA k A b fun j => Kd.of (a.getD j 0)) (y b))).toNat := by
  unfold totA
  rw [List.getD_eq_getElem?_getD, List.getElem?_map, List.getElem?_range hb]; rfl
def okP (m k : Nat) (A : Nat → Nat → R) (y : Nat → R) (t : List Nat) : Prop := ∃ x : Nat → R, (∀ b, b < m → ∃ c, Kd.of (t.getD b 0) = sumA k A b x + c * y b) ∧ ∀ i, k ≤ i → x i = 0
theorem sumA_sub (b : Nat) (u v : Nat → R) : sumA k A b (fun j => u j - v j) = sumA k A b u - sumA k A b v := by
  have := sumR_lin (A b) u v (-1) k
  unfold sumA
  have e : (fun j => A b j * (u j - v j)) = fun j => A b j * (u j + v j * -1) := funext fun j => by grind
  rw [e, this]; grind
theorem dg_get (h : TriL k k V B l) {j : Nat} (hj : j < k) {lead : List R} (hl : lk l j = some lead) : (dgL l)[j]? = some (vec lead j) := by
  have hk : (keysL l)[j]? = some j := by rw [h.keys]; exact List.getElem?_range hj
  unfold keysL at hk
  rw [List.getElem?_map] at hk
  unfold dgL
  rw [List.getElem?_map]
  cases z : l[j]? with
  | none => rw [z] at hk; cases hk
  | some p =>
    rw [z] at hk
    have e : p.1 = j := Option.some.inj hk
    show some (vec p.2 p.1) = _
    rw [h.uniq hl (List.mem_of_getElem? z) e, e]
theorem dg_len (h : TriL k k V B l) : (dgL l).length = k := by
  have := congrArg List.length h.keys
  unfold keysL at this
  rw [List.length_map, List.length_range] at this
  unfold dgL
  rw [List.length_map, this]
theorem ds_get (h : TriL k k V B l) {j : Nat} (hj : j < k) {lead : List R} (hl : lk l j = some lead) : ((dgL l).map Kd.size).getD j 0 = Kd.size (vec lead j) := by
  rw [List.getD_eq_getElem?_getD, List.getElem?_map, dg_get h hj hl]; rfl
variable (h : TriL k k V B l) (hz : ∀ row ∈ left, ∀ c, c < k → vec row c = 0) (hK : ∀ x, SpR' ((l.map fun p => p.2) ++ left) x ↔ KerV m k A y x) (hy : ∀ b, b < m → 0 < Kd.num (y b))
include h hz hK hy
theorem totA_inj {a a' : List Nat} (ha : Box ((dgL l).map Kd.size) a) (ha' : Box ((dgL l).map Kd.size) a') (e : totA m k A y a = totA m k A y a') : a = a' := by
  obtain ⟨la, ga⟩ := box_iff.mp ha
  obtain ⟨la', ga'⟩ := box_iff.mp ha'
  rw [List.length_map, dg_len h] at la ga la' ga'
  have big : ∀ (a : List Nat), a.length = k → ∀ i, k ≤ i → (Kd.of (a.getD i 0) : R) = 0 := fun a la i hi => by
    rw [List.getD_eq_getElem?_getD, List.getElem?_eq_none (by omega)]; exact of_zero
  have ker : SpR' ((l.map fun p => p.2) ++ left) (fun j => (Kd.of (a.getD j 0) : R) - Kd.of (a'.getD j 0)) := by
    refine (hK _).mpr ⟨fun b hb => ?_, fun i hi => by show (_ : R) - _ = 0; rw [big a la i hi, big a' la' i hi]; grind⟩
    have e1 := congrArg (fun t => t.getD b 0) e
    simp only [totA_get hb] at e1
    have r1 := Kd.rem_nonneg (sumA k A b fun j => Kd.of (a.getD j 0)) (y b) (hy b hb)
    have r2 := Kd.rem_nonneg (sumA k A b fun j => Kd.of (a'.getD j 0)) (y b) (hy b hb)
    have e2 : Kd.rem (sumA k A b fun j => Kd.of (a.getD j 0)) (y b) = Kd.rem (sumA k A b fun j => Kd.of (a'.getD j 0)) (y b) := Kd.inj (by omega)
    have q1 := Kd.quo_rem (sumA k A b fun j => Kd.of (a.getD j 0)) (y b) (hy b hb)
    have q2 := Kd.quo_rem (sumA k A b fun j => Kd.of (a'.getD j 0)) (y b) (hy b hb)
    refine ⟨Kd.quo (sumA k A b fun j => Kd.of (a.getD j 0)) (y b) - Kd.quo (sumA k A b fun j => Kd.of (a'.getD j 0)) (y b), ?_⟩
    have := sumA_sub (A := A) (k := k) b (fun j => (Kd.of (a.getD j 0) : R)) (fun j => Kd.of (a'.getD j 0))
    show sumA k A b _ = _
    rw [this]
    grind
  have all : ∀ j, j < k → a.getD j 0 = a'.getD j 0 := by
    intro j
    induction j using Nat.strongRecOn with
    | ind j ih =>
      intro hj
      obtain ⟨lead, hk, hm⟩ := h.get hj
      have lp : 0 < Kd.num (vec lead j) := (h.lead _ hm).1
      obtain ⟨c, hc⟩ := tri_div h hz hj ker (fun i hi => by show (_ : R) - _ = 0; rw [ih i hi (by omega)]; grind) hk
      have g1 := ga j hj
      have g2 := ga' j hj
      rw [ds_get h hj hk] at g1 g2
      have f1 : Kd.rem (Kd.of (a.getD j 0)) (vec lead j) = Kd.of (a.getD j 0) := (Kd.rem_fix _ _ lp).mpr (by rw [Kd.num_of]; omega)
      have f2 : Kd.rem (Kd.of (a'.getD j 0)) (vec lead j) = Kd.of (a'.getD j 0) := (Kd.rem_fix _ _ lp).mpr (by rw [Kd.num_of]; omega)
      have e1 : (Kd.of (a.getD j 0) : R) = Kd.of (a'.getD j 0) + c * vec lead j := by
        have hc' : (Kd.of (a.getD j 0) : R) - Kd.of (a'.getD j 0) = c * vec lead j := hc
        grind
      have e2 := Kd.rem_add (Kd.of (a'.getD j 0)) c (vec lead j) lp
      rw [← e1, f1, f2] at e2
      have := congrArg Kd.num e2
      rw [Kd.num_of, Kd.num_of] at this
      omega
  refine List.ext_getElem? fun j => ?_
  rcases Nat.lt_or_ge j k with hj | hj
  · have := all j hj
    rw [List.getD_eq_getElem?_getD, List.getD_eq_getElem?_getD, List.getElem?_eq_getElem (by omega), List.getElem?_eq_getElem (by omega)] at this
    rw [List.getElem?_eq_getElem (by omega), List.getElem?_eq_getElem (by omega)]
    exact congrArg some this
  · rw [List.getElem?_eq_none (by omega), List.getElem?_eq_none (by omega)]
theorem totA_sur {t : List Nat} {ss : List Nat} (hs : ss.length = m) (hss : ∀ b, b < m → ss.getD b 0 = Kd.size (y b)) (ht : Box ss t) (ok : okP m k A y t) : ∃ a, Box ((dgL l).map Kd.size) a ∧ totA m k A y a = t := by
  obtain ⟨lt, gt⟩ := box_iff.mp ht
  obtain ⟨x, hx, hx0⟩ := ok
  obtain ⟨x', k1, k2⟩ := reduce_ex h k 0 x (by omega) (fun c lead hc => absurd hc (by omega))
  have ker := (hK (fun c => x c - x' c)).mp (k1.mono fun g ⟨row, hr, e⟩ => by subst e; exact SpR'.mem (List.mem_append_left _ hr))
  have nat : ∀ j lead, j < k → lk l j = some lead → 0 ≤ Kd.num (x' j) ∧ Kd.num (x' j) < Kd.size (vec lead j) := fun j lead hj hl => by
    obtain ⟨lead', hk, hm⟩ := h.get hj
    rw [hl] at hk
    cases hk
    exact (Kd.rem_fix _ _ (h.lead _ hm).1).mp (k2 j lead hj hl)
  have get : ∀ j, j < k → ((List.range k).map fun j => (Kd.num (x' j)).toNat).getD j 0 = (Kd.num (x' j)).toNat := fun j hj => by
    rw [List.getD_eq_getElem?_getD, List.getElem?_map, List.getElem?_range hj]; rfl
  refine ⟨(List.range k).map fun j => (Kd.num (x' j)).toNat, box_iff.mpr ⟨by rw [List.length_map, List.length_map, List.length_range, dg_len h], fun j hj => ?_⟩, ?_⟩
  · rw [List.length_map, dg_len h] at hj
    obtain ⟨lead, hk, hm⟩ := h.get hj
    have := nat j lead hj hk
    rw [ds_get h hj hk, get j hj]
    omega
  · refine List.ext_getElem? fun b => ?_
    have lT : (totA m k A y ((List.range k).map fun j => (Kd.num (x' j)).toNat)).length = m := by unfold totA; rw [List.length_map, List.length_range]
    rcases Nat.lt_or_ge b m with hb | hb
    · have e1 : (sumA k A b fun j => Kd.of (((List.range k).map fun j => (Kd.num (x' j)).toNat).getD j 0)) = sumA k A b x' := sumR_congr fun j hj => by
        obtain ⟨lead, hk, hm⟩ := h.get hj
        have := nat j lead hj hk
        show A b j * Kd.of (((List.range k).map fun j => (Kd.num (x' j)).toNat).getD j 0) = _
        rw [get j hj, ← of_num (x := x' j) (n := (Kd.num (x' j)).toNat) (by omega)]
      obtain ⟨c, hc⟩ := hx b hb
      obtain ⟨c2, hc2⟩ := ker.1 b hb
      have hc2' : sumA k A b (fun c => x c - x' c) = c2 * y b := hc2
      rw [sumA_sub] at hc2'
      have e2 : (Kd.of (t.getD b 0) : R) = sumA k A b x' + (c + c2) * y b := by grind
      have e3 := Kd.rem_add (sumA k A b x') (c + c2) (y b) (hy b hb)
      have g := gt b (by omega)
      rw [hss b hb] at g
      have e4 : Kd.rem (Kd.of (t.getD b 0)) (y b) = Kd.of (t.getD b 0) := (Kd.rem_fix _ _ (hy b hb)).mpr (by rw [Kd.num_of]; omega)
      rw [← e2, e4] at e3
      have e5 := totA_get (A := A) (y := y) (k := k) (a := (List.range k).map fun j => (Kd.num (x' j)).toNat) hb
      rw [e1, ← e3, Kd.num_of] at e5
      rw [List.getD_eq_getElem?_getD, List.getD_eq_getElem?_getD, List.getElem?_eq_getElem (by omega), List.getElem?_eq_getElem (by omega)] at e5
      rw [List.getElem?_eq_getElem (by omega), List.getElem?_eq_getElem (by omega)]
      refine congrArg some ?_
      simpa using e5
    · rw [List.getElem?_eq_none (by omega), List.getElem?_eq_none (by omega)]
theorem totA_ok {a : List Nat} (ha : Box ((dgL l).map Kd.size) a) {ss : List Nat} (hs : ss.length = m) (hss : ∀ b, b < m → ss.getD b 0 = Kd.size (y b)) : Box ss (totA m k A y a) ∧ okP m k A y (totA m k A y a) := by
  have la := (box_iff.mp ha).1
  rw [List.length_map, dg_len h] at la
  have lT : (totA m k A y a).length = m := by unfold totA; rw [List.length_map, List.length_range]
  refine ⟨box_iff.mpr ⟨by omega, fun b hb => ?_⟩, fun j => Kd.of (a.getD j 0), fun b hb => ⟨- Kd.quo (sumA k A b fun j => Kd.of (a.getD j 0)) (y b), ?_⟩, fun i hi => ?_⟩
  · have hb' : b < m := by omega
    have := rem_size (sumA k A b fun j => Kd.of (a.getD j 0)) (hy b hb')
    rw [hss b hb', totA_get hb']
    omega
  · have r := Kd.rem_nonneg (sumA k A b fun j => Kd.of (a.getD j 0)) (y b) (hy b hb)
    have q := Kd.quo_rem (sumA k A b fun j => Kd.of (a.getD j 0)) (y b) (hy b hb)
    rw [totA_get hb, ← of_num (x := Kd.rem (sumA k A b fun j => Kd.of (a.getD j 0)) (y b)) (n := (Kd.num (Kd.rem (sumA k A b fun j => Kd.of (a.getD j 0)) (y b))).toNat) (by omega)]
    grind
  · show (Kd.of (a.getD i 0) : R) = 0
    rw [List.getD_eq_getElem?_getD, List.getElem?_eq_none (by omega)]; exact of_zero
/-- as many totals are reached as there are rests by the diagonal -/
theorem count_ok {ss : List Nat} (hs : ss.length = m) (hss : ∀ b, b < m → ss.getD b 0 = Kd.size (y b)) {ok : List Nat → Bool} (hok : ∀ t, Box ss t → (ok t = true ↔ okP m k A y t)) : ((totT ss).filter ok).length = prodN ((dgL l).map Kd.size) := by
  rw [← totT_len, ← List.length_map (as := totT ((dgL l).map Kd.size)) (totA m k A y)]
  refine len_of_mem ((nodup_tot ss).filter _) ?_ fun t => ?_
  · have := nodup_tot ((dgL l).map Kd.size)
    unfold List.Nodup at this ⊢
    rw [List.pairwise_map]
    refine (List.Pairwise.and_mem.mp this).imp fun {a b} ⟨ha, hb, hne⟩ e => hne ?_
    exact totA_inj h hz hK hy (mem_tot.mp ha) (mem_tot.mp hb) e
  · rw [List.mem_filter, List.mem_map, mem_tot]
    constructor
    · rintro ⟨h1, h2⟩
      obtain ⟨a, ha, e⟩ := totA_sur h hz hK hy hs hss h1 ((hok t h1).mp h2)
      exact ⟨a, mem_tot.mpr ha, e⟩
    · rintro ⟨a, ha, rfl⟩
      obtain ⟨b1, b2⟩ := totA_ok h hz hK hy (mem_tot.mp ha) hs hss
      exact ⟨b1, (hok _ b1).mpr b2⟩
end
end PU
set_option Elab.async false
set_option linter.all false
set_option maxRecDepth 100000
/-! M9: a scale's reaching rows. -/
namespace PU
open PySem PySem.Spec PyProof.Rows L2
section
variable {R : Type} [Kd R]
theorem vec_app (xs ys : List R) (i : Nat) : vec (xs ++ ys) i = if i < xs.length then vec xs i else vec ys (i - xs.length) := by
  unfold vec
  rw [List.getD_eq_getElem?_getD, List.getD_eq_getElem?_getD, List.getD_eq_getElem?_getD]
  split
  · rename_i h
    rw [List.getElem?_append_left h]
  · rename_i h
    rw [List.getElem?_append_right (by omega)]
theorem vec_map {α : Type} (f : α → R) (xs : List α) (z : α) (i : Nat) : vec (xs.map f) i = if i < xs.length then f (xs.getD i z) else 0 := by
  unfold vec
  rw [List.getD_eq_getElem?_getD, List.getElem?_map, List.getD_eq_getElem?_getD]
  split
  · rename_i h
    rw [List.getElem?_eq_getElem h]; rfl
  · rename_i h
    rw [List.getElem?_eq_none (by omega)]; rfl
theorem vec_rep (k i : Nat) : vec (List.replicate k (0 : R)) i = 0 := by
  unfold vec
  rw [List.getD_eq_getElem?_getD, List.getElem?_replicate]
  split <;> rfl
abbrev noB : Bal R := ⟨[], 0, 0⟩
def aR (bs : List (Bal R)) (ns : List Str) (b j : Nat) : R := fac (bs.getD b noB).terms (ns.getD j "")
def yR (bs : List (Bal R)) (b : Nat) : R := (bs.getD b noB).by_
theorem top_vec {bs : List (Bal R)} {ns : List Str} (nd : ns.Nodup) {j : Nat} (hj : j < ns.length) : vec (facs bs (ns.getD j "") ++ unitR R ns (ns.getD j "")) = topV bs.length (aR bs ns) j := by
  refine funext fun i => ?_
  have lf : (facs bs (ns.getD j "")).length = bs.length := List.length_map _
  rw [vec_app, lf]
  unfold topV
  by_cases h : i < bs.length
  · rw [if_pos h, if_pos h]
    unfold facs
    rw [vec_map _ _ noB, if_pos h]; rfl
  · rw [if_neg h, if_neg h]
    unfold unitR
    rw [vec_map _ _ ("" : Str)]
    by_cases g : i - bs.length < ns.length
    · rw [if_pos g]
      by_cases z : i = bs.length + j
      · rw [if_pos z, if_pos (by rw [show i - bs.length = j by omega])]
      · rw [if_neg z, if_neg]
        intro e
        rw [List.getD_eq_getElem?_getD, List.getD_eq_getElem?_getD, List.getElem?_eq_getElem hj, List.getElem?_eq_getElem g] at e
        have := (List.getElem_inj nd).mp (show ns[j] = ns[i - bs.length] from e)
        omega
    · rw [if_neg g, if_neg (by omega)]
theorem bot_vec {m k b : Nat} {y : R} (hb : b < m) : vec (((List.range m).map fun i => if b = i then y else 0) ++ List.replicate k 0) = oneV b y := by
  refine funext fun i => ?_
  rw [vec_app, List.length_map, List.length_range, vec_map _ _ 0, List.length_range, vec_rep]
  unfold oneV
  by_cases h : i < m
  · rw [if_pos h, if_pos h, List.getD_eq_getElem?_getD, List.getElem?_range h]
    show (if b = i then y else 0) = _
    by_cases z : i = b
    · rw [if_pos z, if_pos z.symm]
    · rw [if_neg z, if_neg (Ne.symm z)]
  · rw [if_neg h, if_neg (by omega)]
theorem mem_bot {bs : List (Bal R)} {k : Nat} {row : List R} (hy : ∀ b, b < bs.length → 0 < Kd.num (yR bs b)) : row ∈ botR bs k ↔ ∃ b, b < bs.length ∧ row = ((List.range bs.length).map fun i => if b = i then yR bs b else 0) ++ List.replicate k 0 := by
  unfold botR
  rw [List.mem_map]
  constructor
  · rintro ⟨q, hq, rfl⟩
    obtain ⟨h1, h2⟩ := enumR_get noB (List.mem_filter.mp hq).1
    refine ⟨q.1, h1, ?_⟩
    unfold yR
    rw [h2]
  · rintro ⟨b, hb, rfl⟩
    refine ⟨(b, bs.getD b noB), List.mem_filter.mpr ⟨?_, decide_eq_true (hy b hb)⟩, rfl⟩
    unfold enumR
    refine List.mem_iff_getElem?.mpr ⟨b, ?_⟩
    rw [List.getElem?_zip_eq_some]
    exact ⟨by rw [List.getElem?_range hb], by rw [List.getD_eq_getElem?_getD, List.getElem?_eq_getElem hb]; rfl⟩
theorem mem_top {bs : List (Bal R)} {ns : List Str} {row : List R} : row ∈ topR bs ns ↔ ∃ j, j < ns.length ∧ row = facs bs (ns.getD j "") ++ unitR R ns (ns.getD j "") := by
  unfold topR
  rw [List.mem_map]
  constructor
  · rintro ⟨n, hn, rfl⟩
    obtain ⟨j, hj, e⟩ := List.mem_iff_getElem.mp hn
    refine ⟨j, hj, ?_⟩
    rw [List.getD_eq_getElem?_getD, List.getElem?_eq_getElem hj, e]; rfl
  · rintro ⟨j, hj, rfl⟩
    exact ⟨_, getD_mem ("" : Str) hj, rfl⟩
theorem lat_reach {bs : List (Bal R)} {ns : List Str} (nd : ns.Nodup) (hy : ∀ b, b < bs.length → 0 < Kd.num (yR bs b)) : Lat bs.length ns.length (aR bs ns) (yR bs) (reachR bs ns) := by
  refine ⟨fun j hj => ⟨_, List.mem_append_left _ (mem_top.mpr ⟨j, hj, rfl⟩), top_vec nd hj⟩, fun b hb => ⟨_, List.mem_append_right _ ((mem_bot hy).mpr ⟨b, hb, rfl⟩), bot_vec hb⟩, fun row hr => ?_⟩
  rcases List.mem_append.mp hr with z | z
  · obtain ⟨j, hj, rfl⟩ := mem_top.mp z
    exact .inl ⟨j, hj, top_vec nd hj⟩
  · obtain ⟨b, hb, rfl⟩ := (mem_bot hy).mp z
    exact .inr ⟨b, hb, bot_vec hb⟩
theorem reach_len {bs : List (Bal R)} {ns : List Str} (hy : ∀ b, b < bs.length → 0 < Kd.num (yR bs b)) : ∀ row ∈ reachR bs ns, row.length = bs.length + ns.length := fun row hr => by
  rcases List.mem_append.mp hr with z | z
  · obtain ⟨j, hj, rfl⟩ := mem_top.mp z
    unfold facs unitR
    rw [List.length_append, List.length_map, List.length_map]
  · obtain ⟨b, hb, rfl⟩ := (mem_bot hy).mp z
    rw [List.length_append, List.length_map, List.length_range, List.length_replicate]
theorem reach_few {bs : List (Bal R)} {ns : List Str} : (reachR bs ns).length ≤ ns.length + bs.length := by
  unfold reachR topR botR
  rw [List.length_append, List.length_map, List.length_map]
  have : ((enumR bs).filter fun p => decide (0 < Kd.num p.2.by_)).length ≤ (enumR bs).length := List.length_filter_le _ _
  unfold enumR at this ⊢
  rw [List.length_zip, List.length_range, Nat.min_self] at this
  omega
theorem bd_of_vec {B : Nat} {rows : List (List R)} (h : ∀ row ∈ rows, ∀ i, bitsOf (Kd.num (vec row i)) ≤ B) : Bd B rows := by
  intro row hr x hx
  obtain ⟨i, hi, e⟩ := List.mem_iff_getElem.mp hx
  have := h row hr i
  unfold vec at this
  rw [List.getD_eq_getElem?_getD, List.getElem?_eq_getElem hi, e] at this
  exact this
theorem reach_bd {B : Nat} {bs : List (Bal R)} {ns : List Str} (nd : ns.Nodup) (hy : ∀ b, b < bs.length → 0 < Kd.num (yR bs b)) (hB : 1 ≤ B) (h1 : ∀ b j, bitsOf (Kd.num (aR bs ns b j)) ≤ B) (h2 : ∀ b, b < bs.length → bitsOf (Kd.num (yR bs b)) ≤ B) : Bd B (reachR bs ns) := by
  refine bd_of_vec fun row hr i => ?_
  have z0 : bitsOf (Kd.num (0 : R)) ≤ B := Nat.le_trans bd_zero (Nat.zero_le _)
  have z1 : bitsOf (Kd.num (1 : R)) ≤ B := by rw [Kd.num1]; exact hB
  rcases (lat_reach nd hy).only row hr with ⟨j, hj, e⟩ | ⟨b, hb, e⟩
  · rw [e]
    unfold topV
    split
    · exact h1 i j
    · split
      · exact z1
      · exact z0
  · rw [e]
    unfold oneV
    split
    · exact h2 b hb
    · exact z0
end
end PU
set_option Elab.async false
set_option linter.all false
set_option maxRecDepth 100000
/-! M10: one scale's grids, whatever its totals. -/
namespace PU
open PySem PySem.Spec PyProof.Rows L2
theorem gB_few : ∀ m, m ≤ 3 → ∀ k, k ≤ 4 → gB 6 m 3 ≤ 2 ^ 25 ∧ gB 6 k (gB 6 m 3) ≤ 2 ^ 25 ∧ wB (sm k 0) (gB 6 k (gB 6 m 3)) ≤ 2 ^ 25 ∧ wB m (gB 6 m 3) ≤ 2 ^ 25 ∧ wB k (wB (sm k 0) (gB 6 k (gB 6 m 3)) + wB m (gB 6 m 3)) ≤ 2 ^ 25 := by decide +kernel
section
variable {R : Type} [Kd R]
/-- few balances, few names, small numbers -/
structure Cfg (bs : List (Bal R)) (p : R) (ns : List Str) : Prop where
  mf : bs.length ≤ 3
  kf : ns.length ≤ 4
  nd : ns.Nodup
  y0 : ∀ b, b < bs.length → 0 < Kd.num (yR bs b)
  y6 : ∀ b, b < bs.length → Kd.num (yR bs b) ≤ 6
  a6 : ∀ b j, bitsOf (Kd.num (aR bs ns b j)) ≤ 3
  p0 : 0 < Kd.num p
  p6 : Kd.num p ≤ 6
  dv : ∀ b, b < bs.length → ∃ a, p = a * yR bs b
/-- the grids -/
structure Grids (bs : List (Bal R)) (p : R) (ns : List Str) (l : Lds R) (rows : List (List R)) (l2 : Lds R) (left2 : List (List R)) (out : Lds R) : Prop where
  g1 : Grw (bs.length + ns.length) 0 bs.length [] (reachR bs ns) l rows
  k1 : GridOk (bs.length + ns.length) 0 bs.length 6 (gB 6 bs.length 3) (reachR bs ns) l rows
  g2 : Grw ns.length 0 ns.length [] ((rows.map fun r => r.drop bs.length) ++ wholeR p ns.length) l2 left2
  k2 : GridOk ns.length 0 ns.length 6 (gB 6 ns.length (gB 6 bs.length 3)) ((rows.map fun r => r.drop bs.length) ++ wholeR p ns.length) l2 left2
  td : TdO ns.length (List.range ns.length) 0 l2 out
  tr : TriL ns.length ns.length 6 (wB (sm ns.length 0) (gB 6 ns.length (gB 6 bs.length 3))) out
  dg : dgL out = dgL l2
variable [KdM R] [KdS R]
theorem one_of {n b : Nat} {y : R} {row : List R} (h1 : row.length = n) (h2 : vec row = oneV b y) : One n b y row := ⟨h1, fun i => by rw [h2]; rfl⟩
theorem grids_ex {bs : List (Bal R)} {p : R} {ns : List Str} (c : Cfg bs p ns) : ∃ l rows l2 left2 out, Grids bs p ns l rows l2 left2 out := by
  have mf := c.mf
  have kf := c.kf
  obtain ⟨n1, n2, n3, n4, n5⟩ := gB_few _ mf _ kf
  have hV : bl 6 ≤ 9000 := by decide
  have few := reach_few (bs := bs) (ns := ns)
  have bb : ∀ x : R, 0 ≤ Kd.num x → Kd.num x ≤ 6 → bitsOf (Kd.num x) ≤ 3 := fun x h0 h6 => bits_le (V := 6) h0 h6
  obtain ⟨l, rows, g1, k1⟩ := grid_ex (n := bs.length + ns.length) (j := bs.length) (V := 6) hV bs.length 0 3 [] (reachR bs ns) (by omega) (by omega) (by omega) (by omega) (reach_len c.y0) (fun _ _ c hc => absurd hc (by omega)) (reach_bd c.nd c.y0 (by omega) c.a6 fun b hb => bb _ (Int.le_of_lt (c.y0 b hb)) (c.y6 b hb)) n1 (fun b _ hb => by
    obtain ⟨row, hr, e⟩ := (lat_reach (bs := bs) c.nd c.y0).bot b hb
    exact ⟨yR bs b, c.y0 b hb, c.y6 b hb, row, hr, one_of (reach_len c.y0 row hr) e⟩)
  have fr := k1.few
  have wl : (wholeR p ns.length).length = ns.length := by unfold wholeR; rw [List.length_map, List.length_range]
  have g3 : 3 ≤ gB 6 bs.length 3 := gB_mono 6 _ 3
  obtain ⟨l2, left2, g2, k2⟩ := grid_ex (n := ns.length) (j := ns.length) (V := 6) hV ns.length 0 (gB 6 bs.length 3) [] ((rows.map fun r => r.drop bs.length) ++ wholeR p ns.length) (by omega) (by omega) (by omega) (by rw [List.length_append, List.length_map, wl]; omega) (fun row hr => by
      rcases List.mem_append.mp hr with z | z
      · obtain ⟨r, hr', rfl⟩ := List.mem_map.mp z
        rw [List.length_drop, k1.len2 r hr']; omega
      · obtain ⟨_, _, e, _⟩ := vec_whole z
        exact e) (fun _ _ c hc => absurd hc (by omega)) (bd_of_vec fun row hr i => by
      rcases List.mem_append.mp hr with z | z
      · obtain ⟨r, hr', rfl⟩ := List.mem_map.mp z
        rw [vec_drop]
        exact k1.bd.at (List.mem_append_right _ hr')
      · obtain ⟨j, _, _, e⟩ := vec_whole z
        rw [e]
        unfold oneV
        split
        · exact Nat.le_trans (bb p (Int.le_of_lt c.p0) c.p6) g3
        · exact Nat.le_trans bd_zero (Nat.zero_le _)) n2 (fun b _ hb => by
      obtain ⟨row, hr, e1, e2⟩ := whole_mem (p := p) hb
      exact ⟨p, c.p0, c.p6, row, List.mem_append_right _ hr, one_of e1 e2⟩)
  obtain ⟨out, t1, t2, t3⟩ := tdo_ex hV (by omega) (Nat.le_refl _) ns.length 0 _ l2 (by omega) k2.triL n3
  exact ⟨l, rows, l2, left2, out, g1, k1, g2, k2, t1, t2, t3⟩
end
end PU
set_option Elab.async false
set_option linter.all false
set_option maxRecDepth 100000
/-! M11: one scale's turns. -/
namespace PU
open PySem PySem.Spec PyProof.Rows L2
section
variable {R : Type} [Kd R] [KdM R] [KdS R]
variable {bs : List (Bal R)} {p : R} {ns : List Str} {l l2 out : Lds R} {rows left2 : List (List R)}
theorem Grids.still (g : Grids bs p ns l rows l2 left2 out) (v : Nat → R) : SpR' rows v ↔ SpR' (reachR bs ns) v ∧ ∀ c, c < bs.length → v c = 0 := by
  constructor
  · intro h
    refine ⟨(g.k1.sp v).mpr (h.mono fun u ⟨row, hr, e⟩ => ?_), fun c hc => h.zero_at fun u ⟨row, hr, e⟩ => ?_⟩
    · subst e; exact SpR'.mem (List.mem_append_right _ hr)
    · subst e; exact g.k1.zero row hr c hc
  · rintro ⟨h1, h2⟩
    exact tri_left g.k1.triL g.k1.zero ((g.k1.sp v).mp h1) h2
theorem Grids.ker (g : Grids bs p ns l rows l2 left2 out) (c : Cfg bs p ns) (x : Nat → R) : SpR' ((l2.map fun q => q.2) ++ left2) x ↔ KerV bs.length ns.length (aR bs ns) (yR bs) x := by
  rw [← g.k2.sp x]
  exact ker_iff (lat_reach c.nd c.y0) g.still c.dv x
def totV (bs : List (Bal R)) (b : Nat) : R := (bs.getD b noB).tot
theorem turns_ex (c : Cfg bs p ns) (g : Grids bs p ns l rows l2 left2 out) {bs' : List (Bal R)} (hl : bs'.length = bs.length) (hr : reachR bs' ns = reachR bs ns) (sc : ScOk bs') (nm : NmOf bs' ns) (per : PerOk bs' p) (ht : ∀ b ∈ bs', bitsOf (Kd.num b.tot) ≤ 3) :
    ∃ row s first, TuR bs' p ns l rows row s out first ∧ (s = none ↔ ∃ x : Nat → R, (∀ b, b < bs.length → ∃ a, totV bs' b = sumA ns.length (aR bs ns) b x + a * yR bs b) ∧ ∀ i, ns.length ≤ i → x i = 0) := by
  have mf := c.mf
  have kf := c.kf
  obtain ⟨n1, n2, n3, n4, n5⟩ := gB_few _ mf _ kf
  have hV : bl 6 ≤ 9000 := by decide
  have few := reach_few (bs := bs) (ns := ns)
  have fr := g.k1.few
  have g3 : 3 ≤ gB 6 bs.length 3 := gB_mono 6 _ 3
  have tr := g.k1.triL
  have l0 : ((bs'.map fun b => b.tot) ++ List.replicate ns.length (0 : R)).length = bs.length + ns.length := by rw [List.length_append, List.length_map, List.length_replicate, hl]
  have v0 : ∀ i, vec ((bs'.map fun b => b.tot) ++ List.replicate ns.length (0 : R)) i = if i < bs.length then totV bs' i else 0 := fun i => by
    rw [vec_app, List.length_map, hl]
    split
    · rename_i h
      rw [vec_map _ _ noB, if_pos (by omega)]; rfl
    · exact vec_rep _ _
  obtain ⟨row, s, w1, w2, w3, w4, w5, w6⟩ := wrk_ex tr hV (by omega) (by omega) bs.length 0 (gB 6 bs.length 3) ((bs'.map fun b => b.tot) ++ List.replicate ns.length 0) (by omega) (Nat.le_refl _) l0 (fun x hx => by
    rcases List.mem_append.mp hx with z | z
    · obtain ⟨b, hb, rfl⟩ := List.mem_map.mp z
      exact Nat.le_trans (ht b hb) g3
    · rw [(List.mem_replicate.mp z).2]
      exact Nat.le_trans bd_zero (Nat.zero_le _)) n4 (fun c hc => absurd hc (by omega))
  have keys := g.tr.keys
  have klen : (keysL out).length = ns.length := by rw [keys, List.length_range]
  obtain ⟨first, hf⟩ := rst_ex g.tr hV (by omega) (Nat.le_refl _) (keysL out) (wB (sm ns.length 0) (gB 6 ns.length (gB 6 bs.length 3)) + wB bs.length (gB 6 bs.length 3)) ((row.drop bs.length).map fun x => -x) (fun x hx => by rw [keys] at hx; exact List.mem_range.mp hx) (by omega) (by rw [List.length_map, List.length_drop, w2]; omega) (fun x hx => by
    obtain ⟨z, hz, rfl⟩ := List.mem_map.mp hx
    rw [KdM.sz_neg]
    have := w3 z (List.mem_of_mem_drop hz)
    omega) (by rw [klen]; exact n5)
  have lasc : Asc l2 := g.k2.triL.asc
  have llen : l2.length = ns.length := by
    have := congrArg List.length g.k2.triL.keys
    unfold keysL at this
    rwa [List.length_map, List.length_range] at this
  refine ⟨row, s, first, ⟨nm, per, ⟨sc, by omega, by omega, by rw [hl, hr]; exact g.g1, by omega, by rw [hl]; exact w1, by omega⟩, fun _ => ⟨by omega, ⟨l2, left2, by rw [hl]; exact g.g2, lasc, by omega, by rw [g.k2.triL.keys]; exact g.td⟩, by rw [hl]; exact hf⟩⟩, ?_⟩
  have lat := lat_reach (bs := bs) c.nd c.y0
  have up : ∀ {v : Nat → R}, SpR' (l.map fun q => q.2) v → SpR' ((l.map fun q => q.2) ++ rows) v := fun h => h.mono fun u ⟨r, hr, e⟩ => by
    subst e; exact SpR'.mem (List.mem_append_left _ hr)
  constructor
  · intro e
    have z := w5 e
    have hv := (lat_iff lat _).mp ((g.k1.sp _).mpr (up w4))
    refine ⟨fun j => vec ((bs'.map fun b => b.tot) ++ List.replicate ns.length (0 : R)) (bs.length + j) - vec row (bs.length + j), fun b hb => ?_, fun i hi => hv.2 _ (by omega)⟩
    obtain ⟨a, ha⟩ := hv.1 b hb
    refine ⟨a, ?_⟩
    have ha' : vec ((bs'.map fun b => b.tot) ++ List.replicate ns.length (0 : R)) b - vec row b = sumA ns.length (aR bs ns) b (fun j => vec ((bs'.map fun b => b.tot) ++ List.replicate ns.length (0 : R)) (bs.length + j) - vec row (bs.length + j)) + a * yR bs b := ha
    rw [← ha', v0, if_pos hb, z b hb]; grind
  · rintro ⟨x, hx, hx0⟩
    cases s with
    | none => rfl
    | some q =>
      exfalso
      obtain ⟨e, lead, h1, h2, h3, h4, h5⟩ := w6 (by simp)
      have hv : SpR' (reachR bs ns) (fun i => if i < bs.length then totV bs' i else x (i - bs.length)) := by
        refine (lat_iff lat _).mpr ⟨fun b hb => ?_, fun i hi => ?_⟩
        · obtain ⟨a, ha⟩ := hx b hb
          refine ⟨a, ?_⟩
          show (if b < bs.length then totV bs' b else x (b - bs.length)) = sumR ns.length (fun j => aR bs ns b j * (if bs.length + j < bs.length then totV bs' (bs.length + j) else x (bs.length + j - bs.length))) + _
          rw [if_pos hb, ha]
          congr 1
          exact sumR_congr fun j hj => by rw [if_neg (by omega), show bs.length + j - bs.length = j by omega]
        · show (if i < bs.length then totV bs' i else x (i - bs.length)) = 0
          rw [if_neg (by omega)]; exact hx0 _ (by omega)
      have hd := ((g.k1.sp _).mp hv).sub (up w4)
      obtain ⟨a, ha⟩ := tri_div tr g.k1.zero h1 hd (fun i hi => by
        show (if i < bs.length then totV bs' i else x (i - bs.length)) - (vec _ i - vec row i) = 0
        rw [v0, if_pos (by omega), if_pos (by omega), h4 i hi]; grind) h2
      have ha' : (if e < bs.length then totV bs' e else x (e - bs.length)) - (vec ((bs'.map fun b => b.tot) ++ List.replicate ns.length (0 : R)) e - vec row e) = a * vec lead e := ha
      rw [v0, if_pos h1, if_pos h1] at ha'
      have er : vec row e = a * vec lead e := by grind
      exact h5 (by rw [er]; exact rem_dvd h3)
end
end PU
set_option Elab.async false
set_option linter.all false
set_option maxRecDepth 100000
/-! M12: what the law wants of the mathematics. -/
namespace PU
open PySem PySem.Spec PyProof.Rows L2
class KdT (R : Type) [Kd R] : Prop where
  two : ∀ n : Nat, 2 ≤ n → 2 ≤ Kd.size (Kd.of n : R)
instance : KdT Int := ⟨fun n h => by show 2 ≤ ((n : Int)).toNat; omega⟩
instance : KdT Pol := ⟨fun n h => by
  show 2 ≤ 2 ^ (bl n - 1)
  have h1 := lt_bl n
  have h2 : 2 ≤ bl n := by
    rcases (show bl n = 0 ∨ bl n = 1 ∨ 2 ≤ bl n by omega) with z | z | z
    · rw [z] at h1; omega
    · rw [z] at h1; omega
    · exact z
  exact Nat.pow_le_pow_right (show 0 < 2 by decide) (show 1 ≤ bl n - 1 by omega)⟩
section
variable {R : Type} [Kd R]
def prB (b : Bal R) : Tm R × R := (b.terms, b.by_)
theorem enumR_map {α β : Type} (f : α → β) (xs : List α) : enumR (xs.map f) = (enumR xs).map fun q => (q.1, f q.2) := by
  unfold enumR
  rw [List.length_map, List.zip_map_right]
  rfl
theorem reach_of (bs : List (Bal R)) (ns : List Str) : reachR bs ns = (ns.map fun n => ((bs.map prB).map fun q => fac q.1 n) ++ unitR R ns n) ++ (((enumR (bs.map prB)).filter fun q => decide (0 < Kd.num q.2.2)).map fun q => ((List.range (bs.map prB).length).map fun i => if q.1 = i then q.2.2 else 0) ++ List.replicate ns.length 0) := by
  unfold reachR
  congr 1
  · unfold topR facs
    apply List.map_congr_left
    intro n _
    rw [List.map_map]; rfl
  · rw [enumR_map, List.filter_map, List.map_map, List.length_map]
    rfl
theorem reach_congr {bs bs' : List (Bal R)} {ns : List Str} (h : bs'.map prB = bs.map prB) : reachR bs' ns = reachR bs ns := by
  rw [reach_of, reach_of, h]
theorem pr_mem {bs bs' : List (Bal R)} (h : bs'.map prB = bs.map prB) {b : Bal R} (hb : b ∈ bs') : ∃ c ∈ bs, c.terms = b.terms ∧ c.by_ = b.by_ := by
  have : prB b ∈ bs.map prB := by rw [← h]; exact List.mem_map.mpr ⟨b, hb, rfl⟩
  obtain ⟨c, hc, e⟩ := List.mem_map.mp this
  exact ⟨c, hc, congrArg (·.1) e, congrArg (·.2) e⟩
theorem inSc_congr {bs bs' : List (Bal R)} (h : bs'.map prB = bs.map prB) (n : Str) : inSc bs' n ↔ inSc bs n := by
  have one : ∀ {bs bs' : List (Bal R)}, bs'.map prB = bs.map prB → inSc bs' n → inSc bs n := by
    rintro bs bs' h ⟨b, hb, t, ht, e⟩
    obtain ⟨c, hc, e1, _⟩ := pr_mem h hb
    exact ⟨c, hc, t, by rw [e1]; exact ht, e⟩
  exact ⟨one h, one h.symm⟩
theorem no_pr (bs : List (Bal R)) : (noT bs).map prB = bs.map prB := by
  unfold noT
  rw [List.map_map]; rfl
theorem with_pr : ∀ (bs : List (Bal R)) (t : List Nat), t.length = bs.length → (withT bs t).map prB = bs.map prB
  | [], [], _ => rfl
  | [], _ :: _, h => by cases h
  | _ :: _, [], h => by cases h
  | b :: bs, n :: t, h => by
    show prB _ :: (withT bs t).map prB = _
    rw [with_pr bs t (by simpa using h)]; rfl
theorem mem_with : ∀ (bs : List (Bal R)) (t : List Nat), Box (sizes bs) t → ∀ b ∈ withT bs t, ∃ c ∈ bs, ∃ n, n < Kd.size c.by_ ∧ b = ⟨c.terms, Kd.of n, c.by_⟩
  | [], [], _, _, h => by cases h
  | [], _ :: _, h, _, _ => h.elim
  | _ :: _, [], h, _, _ => h.elim
  | c :: bs, n :: t, h, b, hb => by
    rcases List.mem_cons.mp hb with e | e
    · exact ⟨c, List.mem_cons_self, n, h.1, e⟩
    · obtain ⟨c', hc, r⟩ := mem_with bs t h.2 b e
      exact ⟨c', List.mem_cons_of_mem _ hc, r⟩
theorem with_tot : ∀ (bs : List (Bal R)) (t : List Nat) (b : Nat), t.length = bs.length → b < bs.length → totV (withT bs t) b = Kd.of (t.getD b 0)
  | [], _, _, _, h => by cases h
  | _ :: _, [], _, h, _ => by cases h
  | c :: bs, n :: t, 0, _, _ => rfl
  | c :: bs, n :: t, b + 1, h, hb => with_tot bs t b (by simpa using h) (by simpa using hb)
theorem with_len (bs : List (Bal R)) (t : List Nat) (h : t.length = bs.length) : (withT bs t).length = bs.length := by
  unfold withT
  rw [List.length_zipWith]; omega
variable [KdM R] [KdS R] [KdT R]
/-- what the drawn scale is like -/
structure Fit (bs : List (Bal R)) (p : R) (ns : List Str) : Prop where
  cfg : Cfg bs p ns
  bal : ∀ b ∈ bs, BalOk b
  by_ : ∀ b ∈ bs, 0 < Kd.num b.by_ ∧ Kd.num b.by_ ≤ 6 ∧ Kd.num (Kd.rem p b.by_) = 0
  nm : NmOf bs ns
theorem small_bits {x y : R} (h : 0 < Kd.num y) (h6 : Kd.num y ≤ 6) (e : Kd.rem x y = x) : bitsOf (Kd.num x) ≤ 3 := by
  have a := (Kd.rem_fix x y h).mp e
  have b := (KdS.sz y h).2
  exact bits_le (V := 6) a.1 (by omega)
theorem drawn_fit {bs : List (Bal R)} {p : R} {ns : List Str} (d : Drawn bs p ns) : Fit bs p ns := by
  obtain ⟨np, hnp, ep⟩ := d.per
  obtain ⟨j, hj, ens⟩ := d.names
  obtain ⟨bs0, b1, b2, ebs, hbs⟩ := d.rows
  have n26 : 2 ≤ np ∧ np ≤ 6 := by
    unfold perL at hnp
    split at hnp
    · simp only [List.mem_cons, List.not_mem_nil, or_false] at hnp; omega
    · simp only [List.mem_cons, List.not_mem_nil, or_false] at hnp; omega
  have nump : Kd.num p = (np : Int) := by rw [ep, Kd.num_of]
  have p0 : 0 < Kd.num p := by omega
  have p6 : Kd.num p ≤ 6 := by omega
  have s2 : 2 ≤ Kd.size p := by rw [ep]; exact KdT.two np n26.1
  have asc : (ns.map rk).Pairwise (· < ·) := by
    rw [ens]
    exact (by decide +kernel : ∀ j, j < 4 → ((letters.take (1 + j)).map rk).Pairwise (· < ·)) j hj
  have nlen : ns.length = 1 + j := by
    rw [ens]
    exact (by decide +kernel : ∀ j, j < 4 → (letters.take (1 + j)).length = 1 + j) j hj
  have nmok : NmOk ns := ⟨by omega, fun n hn => by rw [ens] at hn; exact List.mem_of_mem_take hn, asc⟩
  have nd : ns.Nodup := by
    have := asc
    rw [List.pairwise_map] at this
    exact this.imp fun h e => by rw [e] at h; omega
  have hby : ∀ b ∈ bs, 0 < Kd.num b.by_ ∧ Kd.num b.by_ ≤ 6 ∧ Kd.num (Kd.rem p b.by_) = 0 := fun b hb => by
    rw [ebs] at hb
    rcases List.mem_append.mp hb with z | z
    · obtain ⟨⟨n, hn, e⟩, _⟩ := hbs b z
      unfold divL at hn
      obtain ⟨i, hi, rfl⟩ := List.mem_map.mp hn
      have hi2 := (List.mem_filter.mp hi).2
      rw [Bool.and_eq_true] at hi2
      have r0 : Kd.num (Kd.rem p (Kd.of (2 + i))) = 0 := of_decide_eq_true hi2.1
      rw [e]
      have h0 : 0 < Kd.num (Kd.of (2 + i) : R) := by rw [Kd.num_of]; omega
      have q := Kd.quo_rem p (Kd.of (2 + i)) h0
      have e2 : p = Kd.quo p (Kd.of (2 + i)) * Kd.of (2 + i) := by
        rw [num_zero r0] at q
        grind
      have := (cho_dvd h0 p0 e2).1
      exact ⟨h0, by omega, r0⟩
    · rw [List.mem_singleton] at z
      subst z
      exact ⟨p0, p6, by rw [rem_self p p0, Kd.num0]⟩
  have bal : ∀ b ∈ bs, BalOk b := fun b hb => by
    rw [ebs] at hb
    rcases List.mem_append.mp hb with z | z
    · exact (hbs b z).2.1
    · rw [List.mem_singleton] at z
      subst z
      have en : ((ns.map fun n => (n, (1 : R))).map fun t => t.1) = ns := by
        rw [List.map_map]
        exact List.map_id ns
      refine ⟨⟨by show 0 ≤ Kd.num p; omega, Nat.le_trans (bits_le (V := 6) (by show 0 ≤ Kd.num p; omega) p6) (by decide)⟩, ⟨by show NmOk ((ns.map fun n => (n, (1 : R))).map fun t => t.1); rw [en]; exact nmok, fun t ht => ?_, fun t ht => ?_, fun t ht => ?_⟩, ?_, rem_zero p0⟩
      · obtain ⟨n, _, rfl⟩ := List.mem_map.mp ht
        show Kd.num (1 : R) ≠ 0
        rw [Kd.num1]; decide
      · obtain ⟨n, _, rfl⟩ := List.mem_map.mp ht
        show bitsOf (Kd.num (1 : R)) ≤ 2 ^ 25
        rw [Kd.num1]; decide
      · obtain ⟨n, _, rfl⟩ := List.mem_map.mp ht
        exact (Kd.rem_fix 1 p p0).mpr (by rw [Kd.num1]; omega)
      · exact Nat.le_trans bd_zero (Nat.zero_le _)
  have getB : ∀ b, b < bs.length → bs.getD b noB ∈ bs := fun b hb => getD_mem noB hb
  refine ⟨⟨by rw [ebs, List.length_append, List.length_singleton]; omega, by omega, nd, fun b hb => (hby _ (getB b hb)).1, fun b hb => (hby _ (getB b hb)).2.1, fun b j => ?_, p0, p6, fun b hb => ?_⟩, bal, hby, ⟨nmok, fun n => ?_⟩⟩
  · have z0 : bitsOf (Kd.num (0 : R)) ≤ 3 := Nat.le_trans bd_zero (Nat.zero_le _)
    unfold aR fac
    rcases Nat.lt_or_ge b bs.length with hb | hb
    · cases z : (bs.getD b noB).terms.find? fun t => decide (t.1 = ns.getD j "") with
      | none => exact z0
      | some t =>
        have ht := List.mem_of_find?_eq_some z
        have h1 := hby _ (getB b hb)
        exact small_bits h1.1 h1.2.1 ((bal _ (getB b hb)).tm.rem t ht)
    · rw [List.getD_eq_getElem?_getD (l := bs), List.getElem?_eq_none hb]
      exact z0
  · have h1 := hby _ (getB b hb)
    have q := Kd.quo_rem p (yR bs b) h1.1
    refine ⟨Kd.quo p (yR bs b), ?_⟩
    have r : Kd.rem p (yR bs b) = 0 := num_zero h1.2.2
    rw [r] at q
    grind
  · constructor
    · intro hn
      refine ⟨_, by rw [ebs]; exact List.mem_append_right _ (List.mem_singleton.mpr rfl), (n, 1), List.mem_map.mpr ⟨n, hn, rfl⟩, rfl⟩
    · rintro ⟨b, hb, t, ht, e⟩
      rw [ebs] at hb
      rcases List.mem_append.mp hb with z | z
      · rw [← e]; exact (hbs b z).2.2 t ht
      · rw [List.mem_singleton] at z
        subst z
        obtain ⟨n', hn', rfl⟩ := List.mem_map.mp ht
        rw [← e]; exact hn'
theorem prod_pos : ∀ (a : List Nat), (∀ n ∈ a, 0 < n) → 0 < prodN a
  | [], _ => Nat.one_pos
  | n :: a, h => Nat.mul_pos (h n List.mem_cons_self) (prod_pos a fun m hm => h m (List.mem_cons_of_mem _ hm))
theorem hM {bs : List (Bal R)} {p : R} {ns : List Str} (d : Drawn bs p ns) : ∃ S ok, MathR bs p ns S ok := by
  have ft := drawn_fit d
  have c := ft.cfg
  have mf := c.mf
  have kf := c.kf
  obtain ⟨l, rows, l2, left2, out, g⟩ := grids_ex c
  have tr := g.k2.triL
  have oklen : out.length = ns.length := by
    have := congrArg List.length g.tr.keys
    unfold keysL at this
    rwa [List.length_map, List.length_range] at this
  have echo : chos p out = (dgL l2).map (cho p) := by
    rw [← g.dg]
    unfold chos dgL
    rw [List.map_map]; rfl
  have dv : ∀ e ∈ dgL l2, 0 < Kd.num e ∧ Kd.num e ≤ Kd.num p ∧ cho p e * Kd.size e = Kd.size p ∧ 0 < cho p e := fun e he => by
    obtain ⟨q, hq, rfl⟩ := List.mem_map.mp he
    have hk := tr.key hq
    obtain ⟨row, hr, _, e2⟩ := whole_mem (p := p) hk
    have h1 : SpR' ((l2.map fun q => q.2) ++ left2) (vec row) := (g.k2.sp _).mp (SpR'.mem (List.mem_append_right _ hr))
    obtain ⟨a, ha⟩ := tri_div tr g.k2.zero hk h1 (fun i hi => by rw [e2]; unfold oneV; rw [if_neg (by omega)]) (tr.asc.lk hq)
    rw [e2] at ha
    unfold oneV at ha
    rw [if_pos rfl] at ha
    have h0 : 0 < Kd.num (col q.1 q.2) := (tr.lead q hq).1
    exact ⟨h0, cho_dvd h0 c.p0 ha⟩
  have s6 : Kd.size p ≤ 6 := by
    have := (KdS.sz p c.p0).2
    have := c.p6
    omega
  have cho6 : ∀ n ∈ chos p out, n ≤ 6 := fun n hn => by
    rw [echo] at hn
    obtain ⟨e, _, rfl⟩ := List.mem_map.mp hn
    exact Nat.le_trans (Nat.div_le_self _ _) s6
  have clen : (chos p out).length ≤ 4 := by unfold chos; rw [List.length_map]; omega
  have ck : ChoOk p out := by
    refine ⟨by rw [oklen]; exact g.tr.keys, fun q hq => by rw [g.tr.len q hq]; omega, fun q hq => ?_, Nat.le_trans (bits_le (V := 6) (Int.le_of_lt c.p0) c.p6) (by decide)⟩
    have : col q.1 q.2 ∈ dgL l2 := by rw [← g.dg]; exact List.mem_map.mpr ⟨q, hq, rfl⟩
    have := dv _ this
    exact ⟨this.1, this.2.1⟩
  have scOf : ∀ bs' : List (Bal R), bs'.map prB = bs.map prB → (∀ b ∈ bs', Kd.rem b.tot b.by_ = b.tot) → ScOk bs' ∧ NmOf bs' ns ∧ PerOk bs' p ∧ ∀ b ∈ bs', bitsOf (Kd.num b.tot) ≤ 3 := fun bs' h ht => by
    have len : bs'.length = bs.length := by
      have := congrArg List.length h
      rwa [List.length_map, List.length_map] at this
    have bits : ∀ b ∈ bs', bitsOf (Kd.num b.tot) ≤ 3 := fun b hb => by
      obtain ⟨c', hc, e1, e2⟩ := pr_mem h hb
      have := ft.by_ c' hc
      rw [e2] at this
      exact small_bits this.1 this.2.1 (ht b hb)
    refine ⟨⟨by omega, fun b hb => ?_⟩, ⟨ft.nm.ok, fun n => by rw [inSc_congr h]; exact ft.nm.iff n⟩, ⟨by have := c.p0; omega, Nat.le_trans (bits_le (V := 6) (Int.le_of_lt c.p0) c.p6) (by decide), fun b hb => ?_⟩, bits⟩
    · obtain ⟨c', hc, e1, e2⟩ := pr_mem h hb
      have k := ft.bal c' hc
      exact ⟨by rw [← e2]; exact k.by_, by rw [← e1, ← e2]; exact k.tm, Nat.le_trans (bits b hb) (by decide), ht b hb⟩
    · obtain ⟨c', hc, e1, e2⟩ := pr_mem h hb
      have := ft.by_ c' hc
      rw [e2] at this
      exact ⟨this.1, this.2.2⟩
  have S0 : 0 < prodN (chos p out) := prod_pos _ fun n hn => by
    rw [echo] at hn
    obtain ⟨e, he, rfl⟩ := List.mem_map.mp hn
    exact (dv e he).2.2.2
  have SB : prodN (chos p out) ≤ 6 ^ 4 := Nat.le_trans (prodN_le _ 6 cho6) (Nat.pow_le_pow_right (by decide) clen)
  refine ⟨prodN (chos p out), fun t => @decide (okP bs.length ns.length (aR bs ns) (yR bs) t) (Classical.propDecidable _), S0, ?_, ?_, fun t ht => ?_, ?_⟩
  · exact Nat.lt_of_le_of_lt SB (Nat.lt_of_lt_of_le (show 6 ^ 4 < 2 ^ 20 by decide) (Nat.pow_le_pow_right (by decide) (by decide)))
  · have e := no_pr bs
    obtain ⟨h1, h2, h3, h4⟩ := scOf (noT bs) e fun b hb => by
      obtain ⟨b', hb', rfl⟩ := List.mem_map.mp hb
      exact rem_zero (ft.by_ b' hb').1
    obtain ⟨row, s, first, tu, hs⟩ := turns_ex c g (bs' := noT bs) (List.length_map _) (reach_congr e) h1 h2 h3 h4
    refine ⟨ns, l, rows, row, s, out, first, tu, fun _ => ⟨ck, fun n hn => Nat.lt_of_le_of_lt (cho6 n hn) (Nat.lt_of_lt_of_le (show 6 < 2 ^ 3 by decide) (Nat.pow_le_pow_right (by decide) (by decide))), rfl⟩, ?_⟩
    have : s = none := hs.mpr ⟨fun _ => 0, fun b hb => ⟨0, ?_⟩, fun _ _ => rfl⟩
    · rw [this]; rfl
    · have e0 : totV (noT bs) b = 0 := by
        unfold totV noT
        rw [List.getD_eq_getElem?_getD, List.getElem?_map, List.getElem?_eq_getElem hb]; rfl
      have e1 : sumA ns.length (aR bs ns) b (fun _ => 0) = sumR ns.length (fun _ => 0) := sumR_congr fun j hj => by grind
      rw [e0, e1, sumR_zero]; grind
  · have hb := mem_tot.mp ht
    have lt : t.length = bs.length := by
      have := hb.len
      unfold sizes at this
      rwa [List.length_map] at this
    have e := with_pr bs t lt
    obtain ⟨h1, h2, h3, h4⟩ := scOf (withT bs t) e fun b hb' => by
      obtain ⟨c', hc, n, hn, rfl⟩ := mem_with bs t hb b hb'
      exact (Kd.rem_fix _ _ (ft.by_ c' hc).1).mpr (by rw [Kd.num_of]; omega)
    obtain ⟨row, s, first, tu, hs⟩ := turns_ex c g (bs' := withT bs t) (with_len bs t lt) (reach_congr e) h1 h2 h3 h4
    refine ⟨ns, l, rows, row, s, out, first, tu, fun _ => ⟨ck, fun n hn => Nat.lt_of_le_of_lt (cho6 n hn) (Nat.lt_of_lt_of_le (show 6 < 2 ^ 3 by decide) (Nat.pow_le_pow_right (by decide) (by decide))), rfl⟩, ?_⟩
    rw [Bool.eq_iff_iff, Option.isNone_iff_eq_none, hs, @decide_eq_true_iff _ (Classical.propDecidable _)]
    unfold okP
    constructor
    · rintro ⟨x, hx, hx0⟩
      exact ⟨x, fun b hb => by obtain ⟨a, ha⟩ := hx b hb; exact ⟨a, by rw [← ha, with_tot bs t b lt hb]⟩, hx0⟩
    · rintro ⟨x, hx, hx0⟩
      exact ⟨x, fun b hb => by obtain ⟨a, ha⟩ := hx b hb; exact ⟨a, by rw [with_tot bs t b lt hb, ha]⟩, hx0⟩
  · have cnt := count_ok tr g.k2.zero (g.ker c) c.y0 (ss := sizes bs) (List.length_map _) (fun b hb => by
      unfold sizes yR
      rw [List.getD_eq_getElem?_getD, List.getElem?_map, List.getD_eq_getElem?_getD, List.getElem?_eq_getElem hb]; rfl) (ok := fun t => @decide (okP bs.length ns.length (aR bs ns) (yR bs) t) (Classical.propDecidable _)) (fun t _ => @decide_eq_true_iff _ (Classical.propDecidable _))
    rw [cnt, echo, Nat.mul_comm, prod_cho p (dgL l2) fun e he => (dv e he).2.2.1, dg_len tr]
end
end PU
set_option Elab.async false
set_option linter.all false
set_option maxRecDepth 100000
set_option maxHeartbeats 4000000
/-! H1: the head's facts as the walk takes them. -/
namespace PU
open PySem PySem.Spec PyProof.Rows L2
/-- a def of the module, a method of a class -/
def dF (x : Str) (st : Stmt) : He.DefD := ⟨(x, none), x, x, defArgs st, defBody st, defScope st, [], []⟩
def dM (C x q : Str) (st : Stmt) : He.DefD := ⟨(C, some x), x, q, defArgs st, defBody st, defScope st, [], []⟩
section
variable {K : Fg} {h : Heap} {mg : Str → Option Value} {fa : List He.Fa} {fn : List He.DefD}
theorem funD_fun {x qual : Str} {st : Stmt} {f : Addr} {fd : FuncData} (F : FunD K x qual (defArgs st) (defBody st) (defScope st) [] [] f fd) : Fun K x qual st f fd := by
  obtain ⟨oc, od, dV, kV, doc, pm, an, cdv, ct, osl, rfl, lk, hcd, hD, hK⟩ := F.ex
  rcases hD with ⟨_, rfl⟩ | ⟨e, _⟩
  · exact ⟨⟨oc, od, kV, doc, pm, an, cdv, ct, osl, rfl, lk, hcd⟩, F.kp⟩
  · exact absurd rfl e
abbrev BndS (x q : Str) (st : Stmt) (ps : List Str) : Prop := ∀ (kV doc pm : Value) (an : Option Addr) (cdv ct : Value) (us : List Value), us.length = ps.length → bindArgs (PySem.W.fnOf x q (defArgs st) (defBody st) (defScope st) .none kV doc pm an cdv ct) ⟨us, []⟩ = pure (ps.zip us)
theorem at_of {x : Str} {st : Stmt} {ps : List Str} (X : K.In h) (G : h.Ns mainGlobals mg) (c : He.SaysD fa fn K) (i j : Nat) (hb : BndS x x st ps) (hi : fn[i]? = some (dF x st) := by rfl) (hj : fa[j]? = some (.glo x) := by rfl) : At K mg x st ps := by
  obtain ⟨fd, F⟩ := c.def_ i (d := dF x st) hi
  have F' : Fun K x x st (He.ga K x) fd := funD_fun F
  exact ⟨_, fd, F', He.glo_ok X G (c.fact j hj), F'.binds hb⟩
theorem atc_of {x : Str} {st : Stmt} {ps : List Str} (X : K.In h) (G : h.Ns mainGlobals mg) (c : He.SaysD fa fn K) (i j : Nat) (hb : BndS x x st ps) (hi : fn[i]? = some (dF x st) := by rfl) (hj : fa[j]? = some (.glo x) := by rfl) : AtC K mg x st ps (He.cT K (x, none)).1 := by
  obtain ⟨fd, F⟩ := c.def_ i (d := dF x st) hi
  have F' : Fun K x x st (He.ga K x) fd := funD_fun F
  have B := F'.binds hb
  obtain ⟨oc, od, kV, doc, pm, an, cdv, ct, osl, e, lk, hcd⟩ := F'.ex
  obtain ⟨cc, rfl⟩ := He.codeIn_ref hcd
  have ec : (He.cT K (x, none)).1 = cc := He.codeOf_eq (p := (x, none)) lk (by rw [e])
  rw [ec]
  exact ⟨_, fd, ⟨⟨oc, od, kV, doc, pm, an, ct, osl, e, lk, hcd⟩, F'.kp⟩, He.glo_ok X G (c.fact j hj), B⟩
theorem atm_of {C x q : Str} {st : Stmt} {ps : List Str} (c : He.SaysD fa fn K) (i j : Nat) (hb : BndS x q st ps) (hi : fn[i]? = some (dM C x q st) := by rfl) (hj : fa[j]? = some (.meth C x) := by rfl) : AtM K (He.ga K C) x q st ps := by
  obtain ⟨fd, F⟩ := c.def_ i (d := dM C x q st) hi
  have F' : Fun K x q st (He.ma K (He.ga K C) x) fd := funD_fun F
  exact ⟨_, fd, F', He.meth_ok (c.fact j hj), F'.binds hb⟩
theorem ati_of {C q : Str} {st : Stmt} {ps : List Str} (X : K.In h) (G : h.Ns mainGlobals mg) (c : He.SaysD fa fn K) (i j j2 : Nat) (hb : BndS "__init__" q st ps) (hi : fn[i]? = some (dM C "__init__" q st) := by rfl) (hj : fa[j]? = some (.glo C) := by rfl) (hj2 : fa[j2]? = some (.mkr C) := by rfl) : AtI K mg C (He.ga K C) q st ps := by
  obtain ⟨fd, F⟩ := c.def_ i (d := dM C "__init__" q st) hi
  have F' : Fun K "__init__" q st (He.ma K (He.ga K C) "__init__") fd := funD_fun F
  exact ⟨_, fd, F', He.glo_ok X G (c.fact j hj), He.mkr_ok (c.fact j2 hj2), F'.binds hb⟩
/-- the tables of code objects -/
theorem tabs_of {ts : List He.Tab} {tf : List He.Defn} {ex : Fg → Bool} {w : World} (X : K.In h) (c : He.SaysX fa fn ts tf ex w h K) :
    (∀ p ∈ tf.map (He.cT K), h.get? p.2 = some { cls := .none, data := .fields #[] }) ∧ (∀ p ∈ tf.map (He.cT K), K.lookup p.2 = none) ∧ (∀ p ∈ tf.map (He.cT K), PySem.W.CodeHd h p.1 p.2) := by
  refine ⟨fun p hp => ?_, fun p hp => ?_, fun p hp => ?_⟩ <;> obtain ⟨q, hq, rfl⟩ := List.mem_map.mp hp
  · exact c.empty q hq
  · exact c.out q hq
  · exact PySem.W.codeHd_of_K X (c.hd q hq)
end
end PU
set_option Elab.async false
set_option linter.all false
set_option maxRecDepth 100000
set_option maxHeartbeats 4000000
/-! the head: where each def stands, what is known of the module's names -/
namespace PU
open PySem PySem.Spec PyProof.Rows L2
structure Ats (K : Fg) (mg : Str → Option Value) : Prop where
  d_is_whole : At K mg "is_whole" (top 10) ["value"]
  d_is_count : At K mg "is_count" (top 11) ["value"]
  d_is_kind : At K mg "is_kind" (top 12) ["value"]
  d_is_number_of : At K mg "is_number_of" (top 13) ["kind", "value"]
  d_name_fits : At K mg "name_fits" (top 14) ["value"]
  d_are_names : At K mg "are_names" (top 15) ["value"]
  d_pair_fits : At K mg "pair_fits" (top 16) ["kind", "value"]
  d_numbers_fit : At K mg "numbers_fit" (top 17) ["kind", "value"]
  d_less_in : At K mg "less_in" (top 18) ["kind", "one", "other"]
  d_turned_in : At K mg "turned_in" (top 19) ["kind", "number"]
  d_times_in : At K mg "times_in" (top 20) ["kind", "one", "other"]
  d_divided_in : At K mg "divided_in" (top 21) ["kind", "number", "by"]
  d_rest_in : At K mg "rest_in" (top 22) ["kind", "number", "by"]
  d_over_in : At K mg "over_in" (top 23) ["kind", "number", "by"]
  d_is_multiple_in : At K mg "is_multiple_in" (top 24) ["kind", "number", "by"]
  d_is_rest_of : At K mg "is_rest_of" (top 26) ["kind", "value", "by"]
  d_terms_fit : At K mg "terms_fit" (top 27) ["kind", "value", "by"]
  d_balance_fits : At K mg "balance_fits" (top 28) ["kind", "value"]
  d_scale_fits : At K mg "scale_fits" (top 29) ["value"]
  d_check_scale : At K mg "check_scale" (top 30) ["scale"]
  d_names_in_scale : At K mg "names_in_scale" (top 31) ["scale"]
  d_turned_row : At K mg "turned_row" (top 33) ["kind", "row"]
  d_lowered : At K mg "lowered" (top 34) ["kind", "row", "other", "often"]
  d_upright : At K mg "upright" (top 35) ["kind", "row", "column"]
  d_led : AtC K mg "led" (top 36) ["kind", "rows", "column"] (He.cT K ("led", none)).1
  d_grid_of : At K mg "grid_of" (top 37) ["kind", "rows", "width"]
  d_tidied : At K mg "tidied" (top 38) ["kind", "leads"]
  d_worked : At K mg "worked" (top 39) ["kind", "leads", "row", "width"]
  d_rested : At K mg "rested" (top 40) ["kind", "leads", "row"]
  d_choices_of : At K mg "choices_of" (top 42) ["kind", "period", "by"]
  d_product_of : At K mg "product_of" (top 43) ["counts"]
  d_factors_of : At K mg "factors_of" (top 45) ["scale", "name"]
  d_totals_of : At K mg "totals_of" (top 46) ["scale"]
  d_reaching_rows : At K mg "reaching_rows" (top 47) ["scale", "names"]
  d_can_be_balanced : At K mg "can_be_balanced" (top 49) ["scale"]
  d_period_fits : At K mg "period_fits" (top 52) ["scale", "value"]
  d_check_turn : At K mg "check_turn" (top 54) ["scale", "period"]
  d_turned_scale : At K mg "turned_scale" (top 55) ["scale", "period"]
  d_turn_spread : At K mg "turn_spread" (top 56) ["scale", "period"]
  d_choices_by : At K mg "choices_by" (top 57) ["spread", "period"]
  d_many_turns : At K mg "many_turns" (top 58) ["scale", "period"]
  d_how_many_turns : At K mg "how_many_turns" (top 59) ["scale", "period"]
  d_law_purse : At K mg "_law_purse" (top 61) ["script", "at"]
  d_law_mixed : At K mg "_law_mixed" (top 62) ["seed", "spin", "at"]
  d_law_draw : At K mg "_law_draw" (top 63) ["purse", "many"]
  d_law_purses : At K mg "_law_purses" (top 64) ["script", "few"]
  d_law_one_of : At K mg "_law_one_of" (top 65) ["purse", "some"]
  d_law_exact : At K mg "_law_exact" (top 66) ["mine", "theirs"]
  d_law_divided : At K mg "_law_divided" (top 69) ["kind", "number", "by"]
  d_law_rest : At K mg "_law_rest" (top 70) ["kind", "number", "by"]
  d_law_number : At K mg "_law_number" (top 72) ["purse", "kind", "most"]
  d_law_balance : At K mg "_law_balance" (top 73) ["purse", "kind", "names", "by", "most", "words"]
  d_law_size : At K mg "_law_size" (top 74) ["kind", "by"]
  d_law_totals : At K mg "_law_totals" (top 75) ["kind", "bys"]
  d_law_right : At K mg "_law_right" (top 76) ["purse", "kind"]
  m_Work_init : AtI K mg "Work" (He.ga K "Work") "Work.__init__" (inClass (top 48) 0) ["self", "scale", "names"]
  m_Work_can : AtM K (He.ga K "Work") "can" "Work.can" (inClass (top 48) 1) ["self"]
  m_Spread_init : AtI K mg "Spread" (He.ga K "Spread") "Spread.__init__" (inClass (top 51) 0) ["self", "kind", "names", "numbers", "rows"]
  m_Spread_strides : AtM K (He.ga K "Spread") "strides" "Spread.strides" (inClass (top 51) 1) ["self"]
def hFn : List He.DefD := [dF "is_whole" (top 10), dF "is_count" (top 11), dF "is_kind" (top 12), dF "is_number_of" (top 13), dF "name_fits" (top 14), dF "are_names" (top 15), dF "pair_fits" (top 16), dF "numbers_fit" (top 17), dF "less_in" (top 18), dF "turned_in" (top 19), dF "times_in" (top 20), dF "divided_in" (top 21), dF "rest_in" (top 22), dF "over_in" (top 23), dF "is_multiple_in" (top 24), dF "is_rest_of" (top 26), dF "terms_fit" (top 27), dF "balance_fits" (top 28), dF "scale_fits" (top 29), dF "check_scale" (top 30), dF "names_in_scale" (top 31), dF "turned_row" (top 33), dF "lowered" (top 34), dF "upright" (top 35), dF "led" (top 36), dF "grid_of" (top 37), dF "tidied" (top 38), dF "worked" (top 39), dF "rested" (top 40), dF "choices_of" (top 42), dF "product_of" (top 43), dF "factors_of" (top 45), dF "totals_of" (top 46), dF "reaching_rows" (top 47), dF "can_be_balanced" (top 49), dF "period_fits" (top 52), dF "check_turn" (top 54), dF "turned_scale" (top 55), dF "turn_spread" (top 56), dF "choices_by" (top 57), dF "many_turns" (top 58), dF "how_many_turns" (top 59), dF "_law_purse" (top 61), dF "_law_mixed" (top 62), dF "_law_draw" (top 63), dF "_law_purses" (top 64), dF "_law_one_of" (top 65), dF "_law_exact" (top 66), dF "_law_divided" (top 69), dF "_law_rest" (top 70), dF "_law_number" (top 72), dF "_law_balance" (top 73), dF "_law_size" (top 74), dF "_law_totals" (top 75), dF "_law_right" (top 76), dM "Work" "__init__" "Work.__init__" (inClass (top 48) 0), dM "Work" "can" "Work.can" (inClass (top 48) 1), dM "Spread" "__init__" "Spread.__init__" (inClass (top 51) 0), dM "Spread" "strides" "Spread.strides" (inClass (top 51) 1), dF "law" (top 77)]
def hFa : List He.Fa := [.glo "is_whole", .glo "is_count", .glo "is_kind", .glo "is_number_of", .glo "name_fits", .glo "are_names", .glo "pair_fits", .glo "numbers_fit", .glo "less_in", .glo "turned_in", .glo "times_in", .glo "divided_in", .glo "rest_in", .glo "over_in", .glo "is_multiple_in", .glo "is_rest_of", .glo "terms_fit", .glo "balance_fits", .glo "scale_fits", .glo "check_scale", .glo "names_in_scale", .glo "turned_row", .glo "lowered", .glo "upright", .glo "led", .glo "grid_of", .glo "tidied", .glo "worked", .glo "rested", .glo "choices_of", .glo "product_of", .glo "factors_of", .glo "totals_of", .glo "reaching_rows", .glo "can_be_balanced", .glo "period_fits", .glo "check_turn", .glo "turned_scale", .glo "turn_spread", .glo "choices_by", .glo "many_turns", .glo "how_many_turns", .glo "_law_purse", .glo "_law_mixed", .glo "_law_draw", .glo "_law_purses", .glo "_law_one_of", .glo "_law_exact", .glo "_law_divided", .glo "_law_rest", .glo "_law_number", .glo "_law_balance", .glo "_law_size", .glo "_law_totals", .glo "_law_right", .glo "law", .free "range", .free "len", .free "min", .free "max", .free "enumerate", .free "zip", .free "sorted", .free "dict", .free "isinstance", .free "int", .free "bool", .free "str", .free "list", .free "tuple", .free "sum", .free "all", .str "LETTERS" "abcdefghijklmnopqrstuvwxyz", .str "FIGURES" "0123456789", .int "MOST_LETTERS" 6, .int "MOST_FIGURES" 3, .glo "Spread", .cls "Spread", .mkr "Spread", .noat "Spread" "kind", .noat "Spread" "names", .noat "Spread" "leads", .noat "Spread" "first", .meth "Spread" "strides", .glo "Work", .cls "Work", .mkr "Work", .noat "Work" "kind", .noat "Work" "many", .noat "Work" "leads", .noat "Work" "still", .noat "Work" "stop", .noat "Work" "left", .noat "Work" "numbers", .meth "Work" "can"]
def hTf : List He.Defn := [("led", none)]
abbrev hEx : Fg → Bool := fun _ => true
section
variable {K : Fg} {h : Heap} {mg : Str → Option Value}
theorem hd_is_whole (X : K.In h) (G : h.Ns mainGlobals mg) (c : He.SaysD hFa hFn K) : At K mg "is_whole" (top 10) ["value"] := at_of X G c 0 0 (fun _ _ _ _ _ _ us hl => match us, hl with | [_], _ => rfl)
theorem hd_is_count (X : K.In h) (G : h.Ns mainGlobals mg) (c : He.SaysD hFa hFn K) : At K mg "is_count" (top 11) ["value"] := at_of X G c 1 1 (fun _ _ _ _ _ _ us hl => match us, hl with | [_], _ => rfl)
theorem hd_is_kind (X : K.In h) (G : h.Ns mainGlobals mg) (c : He.SaysD hFa hFn K) : At K mg "is_kind" (top 12) ["value"] := at_of X G c 2 2 (fun _ _ _ _ _ _ us hl => match us, hl with | [_], _ => rfl)
theorem hd_is_number_of (X : K.In h) (G : h.Ns mainGlobals mg) (c : He.SaysD hFa hFn K) : At K mg "is_number_of" (top 13) ["kind", "value"] := at_of X G c 3 3 (fun _ _ _ _ _ _ us hl => match us, hl with | [_, _], _ => rfl)
theorem hd_name_fits (X : K.In h) (G : h.Ns mainGlobals mg) (c : He.SaysD hFa hFn K) : At K mg "name_fits" (top 14) ["value"] := at_of X G c 4 4 (fun _ _ _ _ _ _ us hl => match us, hl with | [_], _ => rfl)
theorem hd_are_names (X : K.In h) (G : h.Ns mainGlobals mg) (c : He.SaysD hFa hFn K) : At K mg "are_names" (top 15) ["value"] := at_of X G c 5 5 (fun _ _ _ _ _ _ us hl => match us, hl with | [_], _ => rfl)
theorem hd_pair_fits (X : K.In h) (G : h.Ns mainGlobals mg) (c : He.SaysD hFa hFn K) : At K mg "pair_fits" (top 16) ["kind", "value"] := at_of X G c 6 6 (fun _ _ _ _ _ _ us hl => match us, hl with | [_, _], _ => rfl)
theorem hd_numbers_fit (X : K.In h) (G : h.Ns mainGlobals mg) (c : He.SaysD hFa hFn K) : At K mg "numbers_fit" (top 17) ["kind", "value"] := at_of X G c 7 7 (fun _ _ _ _ _ _ us hl => match us, hl with | [_, _], _ => rfl)
theorem hd_less_in (X : K.In h) (G : h.Ns mainGlobals mg) (c : He.SaysD hFa hFn K) : At K mg "less_in" (top 18) ["kind", "one", "other"] := at_of X G c 8 8 (fun _ _ _ _ _ _ us hl => match us, hl with | [_, _, _], _ => rfl)
theorem hd_turned_in (X : K.In h) (G : h.Ns mainGlobals mg) (c : He.SaysD hFa hFn K) : At K mg "turned_in" (top 19) ["kind", "number"] := at_of X G c 9 9 (fun _ _ _ _ _ _ us hl => match us, hl with | [_, _], _ => rfl)
theorem hd_times_in (X : K.In h) (G : h.Ns mainGlobals mg) (c : He.SaysD hFa hFn K) : At K mg "times_in" (top 20) ["kind", "one", "other"] := at_of X G c 10 10 (fun _ _ _ _ _ _ us hl => match us, hl with | [_, _, _], _ => rfl)
theorem hd_divided_in (X : K.In h) (G : h.Ns mainGlobals mg) (c : He.SaysD hFa hFn K) : At K mg "divided_in" (top 21) ["kind", "number", "by"] := at_of X G c 11 11 (fun _ _ _ _ _ _ us hl => match us, hl with | [_, _, _], _ => rfl)
theorem hd_rest_in (X : K.In h) (G : h.Ns mainGlobals mg) (c : He.SaysD hFa hFn K) : At K mg "rest_in" (top 22) ["kind", "number", "by"] := at_of X G c 12 12 (fun _ _ _ _ _ _ us hl => match us, hl with | [_, _, _], _ => rfl)
theorem hd_over_in (X : K.In h) (G : h.Ns mainGlobals mg) (c : He.SaysD hFa hFn K) : At K mg "over_in" (top 23) ["kind", "number", "by"] := at_of X G c 13 13 (fun _ _ _ _ _ _ us hl => match us, hl with | [_, _, _], _ => rfl)
theorem hd_is_multiple_in (X : K.In h) (G : h.Ns mainGlobals mg) (c : He.SaysD hFa hFn K) : At K mg "is_multiple_in" (top 24) ["kind", "number", "by"] := at_of X G c 14 14 (fun _ _ _ _ _ _ us hl => match us, hl with | [_, _, _], _ => rfl)
theorem hd_is_rest_of (X : K.In h) (G : h.Ns mainGlobals mg) (c : He.SaysD hFa hFn K) : At K mg "is_rest_of" (top 26) ["kind", "value", "by"] := at_of X G c 15 15 (fun _ _ _ _ _ _ us hl => match us, hl with | [_, _, _], _ => rfl)
theorem hd_terms_fit (X : K.In h) (G : h.Ns mainGlobals mg) (c : He.SaysD hFa hFn K) : At K mg "terms_fit" (top 27) ["kind", "value", "by"] := at_of X G c 16 16 (fun _ _ _ _ _ _ us hl => match us, hl with | [_, _, _], _ => rfl)
theorem hd_balance_fits (X : K.In h) (G : h.Ns mainGlobals mg) (c : He.SaysD hFa hFn K) : At K mg "balance_fits" (top 28) ["kind", "value"] := at_of X G c 17 17 (fun _ _ _ _ _ _ us hl => match us, hl with | [_, _], _ => rfl)
theorem hd_scale_fits (X : K.In h) (G : h.Ns mainGlobals mg) (c : He.SaysD hFa hFn K) : At K mg "scale_fits" (top 29) ["value"] := at_of X G c 18 18 (fun _ _ _ _ _ _ us hl => match us, hl with | [_], _ => rfl)
theorem hd_check_scale (X : K.In h) (G : h.Ns mainGlobals mg) (c : He.SaysD hFa hFn K) : At K mg "check_scale" (top 30) ["scale"] := at_of X G c 19 19 (fun _ _ _ _ _ _ us hl => match us, hl with | [_], _ => rfl)
theorem hd_names_in_scale (X : K.In h) (G : h.Ns mainGlobals mg) (c : He.SaysD hFa hFn K) : At K mg "names_in_scale" (top 31) ["scale"] := at_of X G c 20 20 (fun _ _ _ _ _ _ us hl => match us, hl with | [_], _ => rfl)
theorem hd_turned_row (X : K.In h) (G : h.Ns mainGlobals mg) (c : He.SaysD hFa hFn K) : At K mg "turned_row" (top 33) ["kind", "row"] := at_of X G c 21 21 (fun _ _ _ _ _ _ us hl => match us, hl with | [_, _], _ => rfl)
theorem hd_lowered (X : K.In h) (G : h.Ns mainGlobals mg) (c : He.SaysD hFa hFn K) : At K mg "lowered" (top 34) ["kind", "row", "other", "often"] := at_of X G c 22 22 (fun _ _ _ _ _ _ us hl => match us, hl with | [_, _, _, _], _ => rfl)
theorem hd_upright (X : K.In h) (G : h.Ns mainGlobals mg) (c : He.SaysD hFa hFn K) : At K mg "upright" (top 35) ["kind", "row", "column"] := at_of X G c 23 23 (fun _ _ _ _ _ _ us hl => match us, hl with | [_, _, _], _ => rfl)
theorem hd_led (X : K.In h) (G : h.Ns mainGlobals mg) (c : He.SaysD hFa hFn K) : AtC K mg "led" (top 36) ["kind", "rows", "column"] (He.cT K ("led", none)).1 := atc_of X G c 24 24 (fun _ _ _ _ _ _ us hl => match us, hl with | [_, _, _], _ => rfl)
theorem hd_grid_of (X : K.In h) (G : h.Ns mainGlobals mg) (c : He.SaysD hFa hFn K) : At K mg "grid_of" (top 37) ["kind", "rows", "width"] := at_of X G c 25 25 (fun _ _ _ _ _ _ us hl => match us, hl with | [_, _, _], _ => rfl)
theorem hd_tidied (X : K.In h) (G : h.Ns mainGlobals mg) (c : He.SaysD hFa hFn K) : At K mg "tidied" (top 38) ["kind", "leads"] := at_of X G c 26 26 (fun _ _ _ _ _ _ us hl => match us, hl with | [_, _], _ => rfl)
theorem hd_worked (X : K.In h) (G : h.Ns mainGlobals mg) (c : He.SaysD hFa hFn K) : At K mg "worked" (top 39) ["kind", "leads", "row", "width"] := at_of X G c 27 27 (fun _ _ _ _ _ _ us hl => match us, hl with | [_, _, _, _], _ => rfl)
theorem hd_rested (X : K.In h) (G : h.Ns mainGlobals mg) (c : He.SaysD hFa hFn K) : At K mg "rested" (top 40) ["kind", "leads", "row"] := at_of X G c 28 28 (fun _ _ _ _ _ _ us hl => match us, hl with | [_, _, _], _ => rfl)
theorem hd_choices_of (X : K.In h) (G : h.Ns mainGlobals mg) (c : He.SaysD hFa hFn K) : At K mg "choices_of" (top 42) ["kind", "period", "by"] := at_of X G c 29 29 (fun _ _ _ _ _ _ us hl => match us, hl with | [_, _, _], _ => rfl)
theorem hd_product_of (X : K.In h) (G : h.Ns mainGlobals mg) (c : He.SaysD hFa hFn K) : At K mg "product_of" (top 43) ["counts"] := at_of X G c 30 30 (fun _ _ _ _ _ _ us hl => match us, hl with | [_], _ => rfl)
theorem hd_factors_of (X : K.In h) (G : h.Ns mainGlobals mg) (c : He.SaysD hFa hFn K) : At K mg "factors_of" (top 45) ["scale", "name"] := at_of X G c 31 31 (fun _ _ _ _ _ _ us hl => match us, hl with | [_, _], _ => rfl)
theorem hd_totals_of (X : K.In h) (G : h.Ns mainGlobals mg) (c : He.SaysD hFa hFn K) : At K mg "totals_of" (top 46) ["scale"] := at_of X G c 32 32 (fun _ _ _ _ _ _ us hl => match us, hl with | [_], _ => rfl)
theorem hd_reaching_rows (X : K.In h) (G : h.Ns mainGlobals mg) (c : He.SaysD hFa hFn K) : At K mg "reaching_rows" (top 47) ["scale", "names"] := at_of X G c 33 33 (fun _ _ _ _ _ _ us hl => match us, hl with | [_, _], _ => rfl)
theorem hd_can_be_balanced (X : K.In h) (G : h.Ns mainGlobals mg) (c : He.SaysD hFa hFn K) : At K mg "can_be_balanced" (top 49) ["scale"] := at_of X G c 34 34 (fun _ _ _ _ _ _ us hl => match us, hl with | [_], _ => rfl)
theorem hd_period_fits (X : K.In h) (G : h.Ns mainGlobals mg) (c : He.SaysD hFa hFn K) : At K mg "period_fits" (top 52) ["scale", "value"] := at_of X G c 35 35 (fun _ _ _ _ _ _ us hl => match us, hl with | [_, _], _ => rfl)
theorem hd_check_turn (X : K.In h) (G : h.Ns mainGlobals mg) (c : He.SaysD hFa hFn K) : At K mg "check_turn" (top 54) ["scale", "period"] := at_of X G c 36 36 (fun _ _ _ _ _ _ us hl => match us, hl with | [_, _], _ => rfl)
theorem hd_turned_scale (X : K.In h) (G : h.Ns mainGlobals mg) (c : He.SaysD hFa hFn K) : At K mg "turned_scale" (top 55) ["scale", "period"] := at_of X G c 37 37 (fun _ _ _ _ _ _ us hl => match us, hl with | [_, _], _ => rfl)
theorem hd_turn_spread (X : K.In h) (G : h.Ns mainGlobals mg) (c : He.SaysD hFa hFn K) : At K mg "turn_spread" (top 56) ["scale", "period"] := at_of X G c 38 38 (fun _ _ _ _ _ _ us hl => match us, hl with | [_, _], _ => rfl)
theorem hd_choices_by (X : K.In h) (G : h.Ns mainGlobals mg) (c : He.SaysD hFa hFn K) : At K mg "choices_by" (top 57) ["spread", "period"] := at_of X G c 39 39 (fun _ _ _ _ _ _ us hl => match us, hl with | [_, _], _ => rfl)
theorem hd_many_turns (X : K.In h) (G : h.Ns mainGlobals mg) (c : He.SaysD hFa hFn K) : At K mg "many_turns" (top 58) ["scale", "period"] := at_of X G c 40 40 (fun _ _ _ _ _ _ us hl => match us, hl with | [_, _], _ => rfl)
theorem hd_how_many_turns (X : K.In h) (G : h.Ns mainGlobals mg) (c : He.SaysD hFa hFn K) : At K mg "how_many_turns" (top 59) ["scale", "period"] := at_of X G c 41 41 (fun _ _ _ _ _ _ us hl => match us, hl with | [_, _], _ => rfl)
theorem hd_law_purse (X : K.In h) (G : h.Ns mainGlobals mg) (c : He.SaysD hFa hFn K) : At K mg "_law_purse" (top 61) ["script", "at"] := at_of X G c 42 42 (fun _ _ _ _ _ _ us hl => match us, hl with | [_, _], _ => rfl)
theorem hd_law_mixed (X : K.In h) (G : h.Ns mainGlobals mg) (c : He.SaysD hFa hFn K) : At K mg "_law_mixed" (top 62) ["seed", "spin", "at"] := at_of X G c 43 43 (fun _ _ _ _ _ _ us hl => match us, hl with | [_, _, _], _ => rfl)
theorem hd_law_draw (X : K.In h) (G : h.Ns mainGlobals mg) (c : He.SaysD hFa hFn K) : At K mg "_law_draw" (top 63) ["purse", "many"] := at_of X G c 44 44 (fun _ _ _ _ _ _ us hl => match us, hl with | [_, _], _ => rfl)
theorem hd_law_purses (X : K.In h) (G : h.Ns mainGlobals mg) (c : He.SaysD hFa hFn K) : At K mg "_law_purses" (top 64) ["script", "few"] := at_of X G c 45 45 (fun _ _ _ _ _ _ us hl => match us, hl with | [_, _], _ => rfl)
theorem hd_law_one_of (X : K.In h) (G : h.Ns mainGlobals mg) (c : He.SaysD hFa hFn K) : At K mg "_law_one_of" (top 65) ["purse", "some"] := at_of X G c 46 46 (fun _ _ _ _ _ _ us hl => match us, hl with | [_, _], _ => rfl)
theorem hd_law_exact (X : K.In h) (G : h.Ns mainGlobals mg) (c : He.SaysD hFa hFn K) : At K mg "_law_exact" (top 66) ["mine", "theirs"] := at_of X G c 47 47 (fun _ _ _ _ _ _ us hl => match us, hl with | [_, _], _ => rfl)
theorem hd_law_divided (X : K.In h) (G : h.Ns mainGlobals mg) (c : He.SaysD hFa hFn K) : At K mg "_law_divided" (top 69) ["kind", "number", "by"] := at_of X G c 48 48 (fun _ _ _ _ _ _ us hl => match us, hl with | [_, _, _], _ => rfl)
theorem hd_law_rest (X : K.In h) (G : h.Ns mainGlobals mg) (c : He.SaysD hFa hFn K) : At K mg "_law_rest" (top 70) ["kind", "number", "by"] := at_of X G c 49 49 (fun _ _ _ _ _ _ us hl => match us, hl with | [_, _, _], _ => rfl)
theorem hd_law_number (X : K.In h) (G : h.Ns mainGlobals mg) (c : He.SaysD hFa hFn K) : At K mg "_law_number" (top 72) ["purse", "kind", "most"] := at_of X G c 50 50 (fun _ _ _ _ _ _ us hl => match us, hl with | [_, _, _], _ => rfl)
theorem hd_law_balance (X : K.In h) (G : h.Ns mainGlobals mg) (c : He.SaysD hFa hFn K) : At K mg "_law_balance" (top 73) ["purse", "kind", "names", "by", "most", "words"] := at_of X G c 51 51 (fun _ _ _ _ _ _ us hl => match us, hl with | [_, _, _, _, _, _], _ => rfl)
theorem hd_law_size (X : K.In h) (G : h.Ns mainGlobals mg) (c : He.SaysD hFa hFn K) : At K mg "_law_size" (top 74) ["kind", "by"] := at_of X G c 52 52 (fun _ _ _ _ _ _ us hl => match us, hl with | [_, _], _ => rfl)
theorem hd_law_totals (X : K.In h) (G : h.Ns mainGlobals mg) (c : He.SaysD hFa hFn K) : At K mg "_law_totals" (top 75) ["kind", "bys"] := at_of X G c 53 53 (fun _ _ _ _ _ _ us hl => match us, hl with | [_, _], _ => rfl)
theorem hd_law_right (X : K.In h) (G : h.Ns mainGlobals mg) (c : He.SaysD hFa hFn K) : At K mg "_law_right" (top 76) ["purse", "kind"] := at_of X G c 54 54 (fun _ _ _ _ _ _ us hl => match us, hl with | [_, _], _ => rfl)
theorem hm_Work_init (X : K.In h) (G : h.Ns mainGlobals mg) (c : He.SaysD hFa hFn K) : AtI K mg "Work" (He.ga K "Work") "Work.__init__" (inClass (top 48) 0) ["self", "scale", "names"] := ati_of X G c 55 84 86 (fun _ _ _ _ _ _ us hl => match us, hl with | [_, _, _], _ => rfl)
theorem hm_Work_can (c : He.SaysD hFa hFn K) : AtM K (He.ga K "Work") "can" "Work.can" (inClass (top 48) 1) ["self"] := atm_of c 56 94 (fun _ _ _ _ _ _ us hl => match us, hl with | [_], _ => rfl)
theorem hm_Spread_init (X : K.In h) (G : h.Ns mainGlobals mg) (c : He.SaysD hFa hFn K) : AtI K mg "Spread" (He.ga K "Spread") "Spread.__init__" (inClass (top 51) 0) ["self", "kind", "names", "numbers", "rows"] := ati_of X G c 57 76 78 (fun _ _ _ _ _ _ us hl => match us, hl with | [_, _, _, _, _], _ => rfl)
theorem hm_Spread_strides (c : He.SaysD hFa hFn K) : AtM K (He.ga K "Spread") "strides" "Spread.strides" (inClass (top 51) 1) ["self"] := atm_of c 58 83 (fun _ _ _ _ _ _ us hl => match us, hl with | [_], _ => rfl)
theorem h_ats (X : K.In h) (G : h.Ns mainGlobals mg) (c : He.SaysD hFa hFn K) : Ats K mg := ⟨hd_is_whole X G c, hd_is_count X G c, hd_is_kind X G c, hd_is_number_of X G c, hd_name_fits X G c, hd_are_names X G c, hd_pair_fits X G c, hd_numbers_fit X G c, hd_less_in X G c, hd_turned_in X G c, hd_times_in X G c, hd_divided_in X G c, hd_rest_in X G c, hd_over_in X G c, hd_is_multiple_in X G c, hd_is_rest_of X G c, hd_terms_fit X G c, hd_balance_fits X G c, hd_scale_fits X G c, hd_check_scale X G c, hd_names_in_scale X G c, hd_turned_row X G c, hd_lowered X G c, hd_upright X G c, hd_led X G c, hd_grid_of X G c, hd_tidied X G c, hd_worked X G c, hd_rested X G c, hd_choices_of X G c, hd_product_of X G c, hd_factors_of X G c, hd_totals_of X G c, hd_reaching_rows X G c, hd_can_be_balanced X G c, hd_period_fits X G c, hd_check_turn X G c, hd_turned_scale X G c, hd_turn_spread X G c, hd_choices_by X G c, hd_many_turns X G c, hd_how_many_turns X G c, hd_law_purse X G c, hd_law_mixed X G c, hd_law_draw X G c, hd_law_purses X G c, hd_law_one_of X G c, hd_law_exact X G c, hd_law_divided X G c, hd_law_rest X G c, hd_law_number X G c, hd_law_balance X G c, hd_law_size X G c, hd_law_totals X G c, hd_law_right X G c, hm_Work_init X G c, hm_Work_can c, hm_Spread_init X G c, hm_Spread_strides c⟩
theorem h_fr (X : K.In h) (G : h.Ns mainGlobals mg) (c : He.SaysD hFa hFn K) : Fr mg := ⟨He.free_ok X G (c.fact 56 (f := .free "range") rfl), He.free_ok X G (c.fact 57 (f := .free "len") rfl), He.free_ok X G (c.fact 58 (f := .free "min") rfl), He.free_ok X G (c.fact 59 (f := .free "max") rfl), He.free_ok X G (c.fact 60 (f := .free "enumerate") rfl), He.free_ok X G (c.fact 61 (f := .free "zip") rfl), He.free_ok X G (c.fact 62 (f := .free "sorted") rfl), He.free_ok X G (c.fact 63 (f := .free "dict") rfl), He.free_ok X G (c.fact 64 (f := .free "isinstance") rfl), He.free_ok X G (c.fact 65 (f := .free "int") rfl), He.free_ok X G (c.fact 66 (f := .free "bool") rfl), He.free_ok X G (c.fact 67 (f := .free "str") rfl), He.free_ok X G (c.fact 68 (f := .free "list") rfl), He.free_ok X G (c.fact 69 (f := .free "tuple") rfl), He.free_ok X G (c.fact 70 (f := .free "sum") rfl), He.free_ok X G (c.fact 71 (f := .free "all") rfl)⟩
theorem h_con (X : K.In h) (G : h.Ns mainGlobals mg) (c : He.SaysD hFa hFn K) : Con mg := ⟨He.str_ok X G (c.fact 72 (f := .str "LETTERS" "abcdefghijklmnopqrstuvwxyz") rfl), He.str_ok X G (c.fact 73 (f := .str "FIGURES" "0123456789") rfl), He.int_ok X G (c.fact 74 (f := .int "MOST_LETTERS" 6) rfl), He.int_ok X G (c.fact 75 (f := .int "MOST_FIGURES" 3) rfl)⟩
theorem h_wk (c : He.SaysD hFa hFn K) : WkC K (He.ga K "Work") := ⟨He.cls_ok (c.fact 85 (f := .cls "Work") rfl), He.noat_ok (c.fact 87 (f := .noat "Work" "kind") rfl), He.noat_ok (c.fact 88 (f := .noat "Work" "many") rfl), He.noat_ok (c.fact 89 (f := .noat "Work" "leads") rfl), He.noat_ok (c.fact 90 (f := .noat "Work" "still") rfl), He.noat_ok (c.fact 91 (f := .noat "Work" "stop") rfl), He.noat_ok (c.fact 92 (f := .noat "Work" "left") rfl), He.noat_ok (c.fact 93 (f := .noat "Work" "numbers") rfl)⟩
theorem h_sp (c : He.SaysD hFa hFn K) : SpC K (He.ga K "Spread") := ⟨He.cls_ok (c.fact 77 (f := .cls "Spread") rfl), He.noat_ok (c.fact 79 (f := .noat "Spread" "kind") rfl), He.noat_ok (c.fact 80 (f := .noat "Spread" "names") rfl), He.noat_ok (c.fact 81 (f := .noat "Spread" "leads") rfl), He.noat_ok (c.fact 82 (f := .noat "Spread" "first") rfl)⟩
theorem h_law (X : K.In h) (G : h.Ns mainGlobals mg) (c : He.SaysD hFa hFn K) : ∃ fd, Fun K "law" "law" (top 77) (He.ga K "law") fd ∧ mg "law" = some (.ref (He.ga K "law")) := by
  obtain ⟨fd, F⟩ := c.def_ 59 (d := dF "law" (top 77)) rfl
  exact ⟨fd, funD_fun F, He.glo_ok X G (c.fact 55 (f := .glo "law") rfl)⟩
end
/-! ### the run -/
abbrev hRow : PySem.W.OpenRow := PySem.W.OpenLaw.row PySem.Challenge.rw_hourscales_k98_whole_rows_of_all_totals
abbrev hHk : PySem.W.Hook := He.hookX 5 hFa hFn [] hTf hEx
def hOb (s : PySem.W.SharedT) : He.AlX := He.obsX 5 hFa hFn [] hTf hEx (HandSHeadRun.getT s)
theorem hOb_eq (s : PySem.W.SharedT) : hOb s = hHk.obs s.abs := He.obsX_eq (HandSHeadRun.getT_eq s)
def hLo0 : List Str := ["_wall", "HourError", "InvalidPeriod", "InvalidScale", "LETTERS", "FIGURES", "MOST_LETTERS", "MOST_FIGURES", "is_whole", "is_count", "is_kind", "is_number_of", "name_fits", "are_names", "pair_fits", "numbers_fit", "less_in", "turned_in", "times_in", "divided_in"]
def hLo1 : List Str := ["rest_in", "over_in", "is_multiple_in", "is_rest_of", "terms_fit", "balance_fits", "scale_fits", "check_scale", "names_in_scale", "turned_row", "lowered", "upright", "led", "grid_of", "tidied", "worked", "rested", "choices_of", "product_of", "factors_of"]
def hLo2 : List Str := ["totals_of", "reaching_rows", "Work", "can_be_balanced", "Spread", "period_fits", "check_turn", "turned_scale", "turn_spread", "choices_by", "many_turns", "how_many_turns", "_law_purse", "_law_mixed", "_law_draw", "_law_purses", "_law_one_of", "_law_exact", "_law_add", "_law_times"]
def hLo3 : List Str := ["_law_divided", "_law_rest", "_law_sum", "_law_number", "_law_balance", "_law_size", "_law_totals", "_law_right"]
def hLoose : List Str := hLo0 ++ hLo1 ++ hLo2 ++ hLo3
set_option maxHeartbeats 0 in
theorem hRun (w : World) : HandSHeadRun.RunEq hRow (PySem.W.view hRow.prog [77]) hHk hOb 4000 hLoose w := by
  intro os
  kernel_rfl
end PU
set_option Elab.async false
set_option linter.all false
set_option maxRecDepth 100000
set_option maxHeartbeats 4000000
/-! H3: the program's defs, one upon the other, up to the law. -/
namespace PU
open PySem PySem.Spec PyProof.Rows L2 LamX
section
variable {P : Program} {w : World} {K : Fg} {mg : Str → Option Value} {base : Heap} {TB : Th} {R : Type} [Kd R] [KdL R] [KdS R] [KdM R] [KdT R]
theorem Df.up {j k : Nat} {x : Str} {S : List D → D → Prop} (F : Df P w K mg base TB j x S) (h : j ≤ k := by decide) : Df P w K mg base TB k x S := F.mono h
theorem Dn.up {j k : Nat} {x : Str} {S : List D → Th → (D → Th → Prop) → Prop} (F : Dn P w K mg base j x S) (h : j ≤ k := by decide) : Dn P w K mg base k x S := F.mono h
theorem Dj.up {j k : Nat} {x : Str} {C : Addr} {S : List D → List Str → List D → Prop} (F : Dj P w K mg base TB j x C S) (h : j ≤ k := by decide) : Dj P w K mg base TB k x C S := F.mono h
theorem Dm.up {j k : Nat} {m : Str} {C : Addr} {S : List D → D → Prop} (F : Dm P w K mg base TB j C m S) (h : j ≤ k := by decide) : Dm P w K mg base TB k C m S := F.mono h
theorem ch_right {Pt : Addr} (to : TabOnly TB) (A : Ats K mg) (fr : Fr mg) (co : Con mg) (wc : WkC K (He.ga K "Work")) (sc : SpC K (He.ga K "Spread")) (tb : TabB base mg (He.cT K ("led", none)).1 Pt) (hT : TB Pt = some (.tab "led.<locals>.<lambda>"))
    (Fless : Df P w K mg base TB 1 "less_in" (sSub R)) (Fturn : Df P w K mg base TB 1 "turned_in" (sNeg R)) (Ftimes : Df P w K mg base TB 1 "times_in" (sMul R)) (Fdiv : Df P w K mg base TB 1 "divided_in" (sDiv R)) (Fcho : Df P w K mg base TB 1 "choices_of" (sCho R))
    (Fdraw : Dn P w K mg base 2 "_law_draw" (sDraw TB)) (Fnumb : Dn P w K mg base 3 "_law_number" (sNumb R TB)) (Fldiv : Df P w K mg base TB 1 "_law_divided" (sLDiv R)) (Fsize : Df P w K mg base TB 1 "_law_size" (sSize R))
    (F8 : Df P w K mg base TB 1 "_law_exact" sExB) (F9 : Df P w K mg base TB 2 "_law_exact" sExL) : Dn P w K mg base 20 "_law_right" (sRight R TB) := by
  have Frest : Df P w K mg base TB 2 "rest_in" (sRem R) := w_rest to A.d_rest_in Fdiv
  have Fover : Df P w K mg base TB 2 "over_in" (sQuo R) := w_over to A.d_over_in Fdiv
  have Fmult : Df P w K mg base TB 3 "is_multiple_in" (sMult R) := w_mult to A.d_is_multiple_in Frest
  have Ftrow : Df P w K mg base TB 2 "turned_row" (sTurn R) := w_trow to A.d_turned_row Fturn
  have Flow : Df P w K mg base TB 2 "lowered" (sLow R) := w_low to A.d_lowered fr.zip Fless Ftimes
  have Fup : Df P w K mg base TB 3 "upright" (sUp R) := w_up to A.d_upright Ftrow
  have Fled : Df P w K mg base TB 6 "led" (sLed R) := w_led (k := 3) to A.d_led tb hT fr Fup Flow.up Fover.up
  have Fgrid : Df P w K mg base TB 7 "grid_of" (sGrid R) := w_grid to A.d_grid_of fr Fled
  have Frested : Df P w K mg base TB 3 "rested" (sRst R) := w_rested to A.d_rested fr Flow Fover
  have Fworked : Df P w K mg base TB 4 "worked" (sWork R) := w_worked to A.d_worked fr Flow.up Fover.up Fmult
  have Ftidied : Df P w K mg base TB 3 "tidied" (sTidy R) := w_tidied to A.d_tidied fr Flow Fover
  have Fwhole : Df P w K mg base TB 1 "is_whole" sWhole := w_whole (k := 0) to A.d_is_whole fr
  have Fcount : Df P w K mg base TB 2 "is_count" sCount := w_count to A.d_is_count Fwhole
  have Fkind : Df P w K mg base TB 1 "is_kind" (sKind R) := w_kind (k := 0) to A.d_is_kind fr
  have Fnum : Df P w K mg base TB 3 "is_number_of" (sNum R) := w_num to A.d_is_number_of Fwhole.up Fcount
  have Fname : Df P w K mg base TB 1 "name_fits" sName := w_name (k := 0) to A.d_name_fits fr co
  have Fanames : Df P w K mg base TB 2 "are_names" sNames := w_anames to A.d_are_names fr Fname
  have Fpair : Df P w K mg base TB 4 "pair_fits" (sPair R) := w_pair to A.d_pair_fits fr Fname.up Fnum
  have Fnums : Df P w K mg base TB 5 "numbers_fit" (sNums R) := w_nums to A.d_numbers_fit fr Fpair Fanames.up
  have Fisrest : Df P w K mg base TB 4 "is_rest_of" (sIsRest R) := w_isrest to A.d_is_rest_of Fnum Frest.up
  have Fterms : Df P w K mg base TB 6 "terms_fit" (sTerms R) := w_terms to A.d_terms_fit Fnums Fisrest.up
  have Fbal : Df P w K mg base TB 7 "balance_fits" (sBal R) := w_bal to A.d_balance_fits fr Fcount.up Fterms Fisrest.up
  have Fscale : Df P w K mg base TB 8 "scale_fits" (sScale R) := w_scale to A.d_scale_fits fr Fkind.up Fbal
  have Fcheck : Df P w K mg base TB 9 "check_scale" (sCheck R) := w_check to A.d_check_scale Fscale
  have Fnmin : Df P w K mg base TB 1 "names_in_scale" (sNmIn R) := w_nmin (k := 0) to A.d_names_in_scale fr
  have Ffacs : Df P w K mg base TB 1 "factors_of" (sFacs R) := w_facs (k := 0) to A.d_factors_of fr
  have Ftots : Df P w K mg base TB 1 "totals_of" (sTots R) := w_tots (k := 0) to A.d_totals_of
  have Freach : Df P w K mg base TB 2 "reaching_rows" (sReach R) := w_reach to A.d_reaching_rows fr Ffacs
  have Fwork : Dj P w K mg base TB 9 "Work" (He.ga K "Work") (sWk R) := w_work (k := 8) to A.m_Work_init wc fr Fgrid.up Freach.up Fworked.up Ftots.up Fturn.up
  have Fcan : Dm P w K mg base TB 1 (He.ga K "Work") "can" (sCan R (He.ga K "Work")) := w_can (k := 0) to A.m_Work_can wc
  have Fcanbal : Df P w K mg base TB 11 "can_be_balanced" (sCanBal R) := w_canbal (k := 9) to A.d_can_be_balanced wc Fcheck.up Fwork Fcan.up Fnmin.up
  have Fspread : Dj P w K mg base TB 9 "Spread" (He.ga K "Spread") (sSp R) := w_spread (k := 8) to A.m_Spread_init sc fr Fgrid.up Ftidied.up Frested.up
  have Fstr : Dm P w K mg base TB 1 (He.ga K "Spread") "strides" (sStr R (He.ga K "Spread")) := w_strides (k := 0) to A.m_Spread_strides sc fr
  have Fprod : Df P w K mg base TB 1 "product_of" sProd := w_prod (k := 0) to A.d_product_of
  have Fchos : Df P w K mg base TB 2 "choices_by" (sChos R (He.ga K "Spread")) := w_chos to A.d_choices_by sc fr Fstr Fcho
  have Fper : Df P w K mg base TB 4 "period_fits" (sPer R) := w_per to A.d_period_fits Fwhole.up Fmult
  have FchkT : Df P w K mg base TB 10 "check_turn" (sChkT R) := w_chkT to A.d_check_turn Fcheck Fper.up
  have Fturnd : Df P w K mg base TB 3 "turned_scale" (sTurned R) := (w_turnd (k := 2) to A.d_turned_scale)
  have Ftusp : Df P w K mg base TB 11 "turn_spread" (sTuSp R (He.ga K "Spread")) := w_tusp (k := 9) to A.d_turn_spread wc fr Fnmin.up Fturnd.up Fwork Fcan.up Fspread
  have Fmany : Df P w K mg base TB 12 "many_turns" (sMany R) := w_many to A.d_many_turns Ftusp Fprod.up Fchos.up
  have Fhowm : Df P w K mg base TB 13 "how_many_turns" (sMany R) := w_howm to A.d_how_many_turns FchkT.up Fmany
  have Fone : Dn P w K mg base 3 "_law_one_of" (sOne TB) := w_one to A.d_law_one_of fr Fdraw
  have Flrest : Df P w K mg base TB 2 "_law_rest" (sRem R) := w_lrest to A.d_law_rest Fldiv
  have Flbal : Dn P w K mg base 4 "_law_balance" (sLBal R TB) := w_lbal to A.d_law_balance fr Fdraw.up Fnumb Flrest.up
  have Ftotals : Df P w K mg base TB 2 "_law_totals" (sTotals R) := w_totals to A.d_law_totals fr Fsize
  exact w_right (k := 19) to A.d_law_right fr Fone.up Fdraw.up Flbal.up Flrest.up Fsize.up Fhowm.up Ftotals.up F8.up F9.up Fcanbal.up (fun bs p ns d => hM d)
theorem ch_law {Pt : Addr} {fd : FuncData} (to : TabOnly TB) (A : Ats K mg) (fr : Fr mg) (co : Con mg) (wc : WkC K (He.ga K "Work")) (sc : SpC K (He.ga K "Spread")) (tb : TabB base mg (He.cT K ("led", none)).1 Pt) (hT : TB Pt = some (.tab "led.<locals>.<lambda>"))
    (F : Fun K "law" "law" (top 77) (He.ga K "law") fd) : FnOk P w K mg base CX0 21 (He.ga K "law") fd ["script"] (spLaw98 K TB) := by
  have Fmix : Df P w K mg base TB 1 "_law_mixed" sMix := w_mix (k := 0) to A.d_law_mixed fr
  have Fdraw : Dn P w K mg base 2 "_law_draw" (sDraw TB) := w_draw to A.d_law_draw fr Fmix
  have FexI : Df P w K mg base TB 1 "_law_exact" sExI := w_exI (k := 0) to A.d_law_exact fr
  have FexB : Df P w K mg base TB 1 "_law_exact" sExB := w_exB (k := 0) to A.d_law_exact fr
  have FexL : Df P w K mg base TB 2 "_law_exact" sExL := w_exL to A.d_law_exact fr FexI
  have Fpurse : Df P w K mg base TB 1 "_law_purse" sPurse := w_purse (k := 0) to A.d_law_purse fr
  have Fpurses : Df P w K mg base TB 2 "_law_purses" sPurses := w_purses to A.d_law_purses fr Fpurse
  refine w_law (k := 20) to F Fpurses.up ?_ ?_
  · exact ch_right to A fr co wc sc tb hT (w_lessI (k := 0) to A.d_less_in) (w_turnedI (k := 0) to A.d_turned_in) (w_timesI (k := 0) to A.d_times_in) (w_divI (k := 0) to A.d_divided_in) (w_choI (k := 0) to A.d_choices_of) Fdraw (w_numbI to A.d_law_number Fdraw) (w_ldivI (k := 0) to A.d_law_divided fr) (w_sizeI (k := 0) to A.d_law_size) FexB FexL
  · exact ch_right to A fr co wc sc tb hT (w_lessP (k := 0) to A.d_less_in) (w_turnedP (k := 0) to A.d_turned_in) (w_timesP (k := 0) to A.d_times_in fr.range) (w_divP (k := 0) to A.d_divided_in) (w_choP (k := 0) to A.d_choices_of) Fdraw (w_numbP to A.d_law_number Fdraw) (w_ldivP (k := 0) to A.d_law_divided fr) (w_sizeP (k := 0) to A.d_law_size fr) FexB FexL
theorem bnd_law {K : Fg} {fd : FuncData} (F : Fun K "law" "law" (top 77) (He.ga K "law") fd) (s : Shared) (u : Value) : BindsTo s fd ⟨[u], []⟩ [("script", u)] := by
  obtain ⟨oc, od, kV, doc, pm, an, cdv, ct, osl, rfl, lk, hcd⟩ := F.ex
  exact .of_eq rfl
/-- what the head tells is what the law's end wants -/
theorem h_end {l : PySem.W.OpenLaw} {w : World} {K : Fg} {h : Heap} {mg : Str → Option Value} {fa : Addr} (hl : l.prog = l.prog) (X : K.In h) (G : h.Ns mainGlobals mg) (c : He.SaysX hFa hFn [] hTf hEx w h K) (hfa : mg "law" = some (.ref fa)) : LamX.LawAtS l w K CX0 21 63 "script" mg fa h := by
  obtain ⟨fd, F, m⟩ := h_law X G c.t.d
  have e := hfa.symm.trans m
  cases e
  obtain ⟨t1, t2, t3⟩ := tabs_of X c
  let TB : Th := fun a => if a = (He.cT K ("led", none)).2 then some (.tab "led.<locals>.<lambda>") else none
  have to : TabOnly TB := fun a d q => by
    by_cases z : a = (He.cT K ("led", none)).2
    · have q' : some (D.tab "led.<locals>.<lambda>") = some d := by rw [← q]; exact (if_pos z).symm
      cases q'; exact ⟨_, rfl⟩
    · have q' : (none : Option D) = some d := by rw [← q]; exact (if_neg z).symm
      cases q'
  have hT : TB (He.cT K ("led", none)).2 = some (.tab "led.<locals>.<lambda>") := if_pos rfl
  refine ⟨fd, hTf.map (He.cT K), spLaw98 K TB, t1, t2, t3, bnd_law F, fun H a ns hl hb hH hS => ⟨a, ns, rfl, hS, hl, fun b d q => ?_, fun H' => rfl⟩, fun base KB GB tb => ?_⟩
  · by_cases z : b = (He.cT K ("led", none)).2
    · rw [z]; exact hH (He.cT K ("led", none)) (List.mem_map.mpr ⟨_, List.mem_cons_self, rfl⟩)
    · have q' : (none : Option D) = some d := by rw [← q]; exact (if_neg z).symm
      cases q'
  · exact ch_law to (h_ats X G c.t.d) (h_fr X G c.t.d) (h_con X G c.t.d) (h_wk c.t.d) (h_sp c.t.d) (tb (He.cT K ("led", none)) (List.mem_map.mpr ⟨_, List.mem_cons_self, rfl⟩)) hT F
end
end PU
open PySem PySem.W PySem.Calls PyProof.Rows in
set_option maxRecDepth 100000 in
set_option maxHeartbeats 0 in
theorem PySem.Challenge.cw_hourscales_k98_whole_rows_of_all_totals_holds : PySem.Challenge.rw_hourscales_k98_whole_rows_of_all_totals.Holds := by
  w_on; o_law
  refine HandSHeadRun.head_any (r := PU.hRow) (q := view PU.hRow.prog [77]) (H := PU.hHk) (ob := PU.hOb) (M := 4000) (loose := PU.hLoose) (d := HandSHeadRun.topDef PU.hRow.prog 77) (kwd := []) PU.hOb_eq
    (by kernel_rfl) (fun s => by kernel_rfl) PU.hRun (by kernel_rfl) (by kernel_rfl) (by kernel_rfl) (by rfl) (by first | assumption | decide +kernel) (by decide +kernel) ⟨rfl, rfl, rfl, rfl, rfl, by decide +kernel⟩ ?hw ?hc
  case hw => w_witness2
  case hc =>
    refine LamX.walk_ofTsE (l := PySem.Challenge.rw_hourscales_k98_whole_rows_of_all_totals) (n := 63) (k := 21) (x := "script") (CX := fun _ => L2.CX0) rfl (by decide) (by kernel_rfl) ⟨rfl, by decide, by decide⟩ ?F (fun _ _ _ _ _ z => z)
    intro w mg fa h Y G hmg0
    obtain ⟨K, KX, c⟩ := Y
    have hmg : mg ("law" : PySem.Str) = some (.ref fa) := by
      have e : (HandSHeadRun.topDef PU.hRow.prog 77).name = ("law" : PySem.Str) := by kernel_rfl
      rw [← e]
      exact hmg0
    exact ⟨K, KX, PU.h_end rfl KX G c hmg⟩
#print axioms PySem.Challenge.cw_hourscales_k98_whole_rows_of_all_totals_holds
