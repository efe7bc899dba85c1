import PyProof.Rows.All
import Wide.All
import OpenK.AllK
import Wide.FinOn
import HandS.ForMost
import HandS.HeadHook1
import HandS.HeadHook2
import KE.KStateDown
import HandS.More
import HandS.Defaults
import HandS.Head0
import HandS.Head1
import HandS.Head2
import HandS.HeadEnd
import HandS.IsInst
import HandS.TupAny
import HandS.RevRange
import HandS.Walk
import HandS.Wide
import HandS.WideBits
import KE.GoesEnum
import KE.KEqSeq
import HandS.Codes
import PySem.Challenge.RW_tightwood_k53_stretches
set_option Elab.async false
set_option linter.all false
set_option maxRecDepth 100000
set_option maxHeartbeats 0
/-! M1: rows of bits: words, ones, the so-many-th one. Plain Lean. -/
namespace TW
/-- how many of the first i bits are 1 -/
def rk (bs : List Bool) (i : Nat) : Nat := (bs.take i).count true
/-- the height at place i -/
def ht (bs : List Bool) (i : Nat) : Int := 2 * (rk bs i : Int) - (i : Int)
/-- a word of bits -/
def wordOf : List Bool → Nat
  | [] => 0
  | b :: r => b.toNat + 2 * wordOf r
theorem wordOf_lt : ∀ l : List Bool, wordOf l < 2 ^ l.length
  | [] => by decide
  | b :: r => by
    have h := wordOf_lt r
    have hb : b.toNat ≤ 1 := by cases b <;> decide
    simp only [wordOf, List.length_cons, Nat.pow_succ]
    omega
theorem wordOf_snoc : ∀ (l : List Bool) (b : Bool), wordOf (l ++ [b]) = wordOf l + b.toNat * 2 ^ l.length
  | [], b => by simp [wordOf]
  | a :: r, b => by
    have h := wordOf_snoc r b
    simp only [List.cons_append, wordOf, h, List.length_cons, Nat.pow_succ]
    have : 2 * (b.toNat * 2 ^ r.length) = b.toNat * (2 ^ r.length * 2) := by
      rw [Nat.mul_comm 2, Nat.mul_assoc]
    omega
theorem wordOf_pad : ∀ (l : List Bool) (n : Nat), wordOf (l ++ List.replicate n false) = wordOf l
  | [], 0 => rfl
  | [], n + 1 => by
    have h := wordOf_pad [] n
    simp only [List.nil_append] at h
    simp only [List.nil_append, List.replicate_succ, wordOf, h]
    decide
  | a :: r, n => by
    have h := wordOf_pad r n
    simp only [List.cons_append, wordOf, h]
/-- the bit at a place -/
theorem wordOf_bit : ∀ (l : List Bool) (i : Nat), wordOf l / 2 ^ i % 2 = ((l[i]?).getD false).toNat
  | [], i => by simp [wordOf]
  | a :: r, 0 => by
    simp only [wordOf, Nat.pow_zero, Nat.div_one, List.getElem?_cons_zero, Option.getD_some]
    have hb : a.toNat ≤ 1 := by cases a <;> decide
    omega
  | a :: r, i + 1 => by
    have h := wordOf_bit r i
    simp only [wordOf, List.getElem?_cons_succ]
    rw [← h, Nat.pow_succ, Nat.mul_comm (2 ^ i) 2, ← Nat.div_div_eq_div_mul]
    have hb : a.toNat ≤ 1 := by cases a <;> decide
    have : (a.toNat + 2 * wordOf r) / 2 = wordOf r := by omega
    rw [this]
theorem wordOf_not : ∀ l : List Bool, wordOf (l.map not) = 2 ^ l.length - 1 - wordOf l
  | [] => by decide
  | b :: r => by
    have h := wordOf_not r
    have h2 := wordOf_lt r
    have hp : 0 < 2 ^ r.length := Nat.two_pow_pos _
    simp only [List.map_cons, wordOf, h, List.length_cons, Nat.pow_succ]
    cases b
    · simp only [Bool.not_false, Bool.toNat_true, Bool.toNat_false]; omega
    · simp only [Bool.not_true, Bool.toNat_true, Bool.toNat_false]; omega
theorem wordOf_take : ∀ (l : List Bool) (r : Nat), wordOf (l.take r) = wordOf l % 2 ^ r
  | [], r => by simp [wordOf]
  | a :: l, 0 => by simp [wordOf, Nat.mod_one]
  | a :: l, r + 1 => by
    have h := wordOf_take l r
    simp only [List.take_succ_cons, wordOf, h]
    rw [Nat.pow_succ, Nat.mul_comm (2 ^ r) 2, Nat.mod_mul]
    have hb : a.toNat ≤ 1 := by cases a <;> decide
    have e1 : (a.toNat + 2 * wordOf l) % 2 = a.toNat := by omega
    have e2 : (a.toNat + 2 * wordOf l) / 2 = wordOf l := by omega
    rw [e1, e2]
/-! ### digits -/
def dg (k : Nat) : List Nat → Nat
  | [] => 0
  | d :: r => d + 2 ^ k * dg k r
def pairUp (k : Nat) : List Nat → List Nat
  | a :: b :: r => (a + 2 ^ k * b) :: pairUp k r
  | l => l
def evens : List Nat → List Nat
  | a :: _ :: r => a :: evens r
  | l => l
def odds : List Nat → List Nat
  | _ :: b :: r => b :: odds r
  | [_] => [0]
  | [] => []
def addP : List Nat → List Nat
  | a :: b :: r => (a + b) :: addP r
  | l => l
theorem dg_pairUp (k : Nat) : ∀ l : List Nat, dg (2 * k) (pairUp k l) = dg k l
  | [] => rfl
  | [a] => by simp [pairUp, dg]
  | a :: b :: r => by
    have h := dg_pairUp k r
    simp only [pairUp, dg, h]
    rw [Nat.mul_add, ← Nat.mul_assoc (2 ^ k) (2 ^ k), ← Nat.pow_add, show k + k = 2 * k by omega]
    omega
theorem low_and {k a X M : Nat} (ha : a < 2 ^ k) : (a + 2 ^ k * X) &&& (2 ^ k - 1 + 2 ^ k * M) = a + 2 ^ k * (X &&& M) := by
  have hp : 0 < 2 ^ k := Nat.two_pow_pos k
  apply Nat.eq_of_testBit_eq
  intro i
  rw [Nat.testBit_and]
  by_cases hi : i < k
  · have e : ∀ z Y : Nat, z < 2 ^ k → (z + 2 ^ k * Y).testBit i = z.testBit i := by
      intro z Y hz
      rw [Nat.add_comm, Nat.testBit_two_pow_mul_add _ hz]
      simp [hi]
    rw [e a X ha, e (2 ^ k - 1) M (by omega), e a (X &&& M) ha]
    rw [Nat.testBit_two_pow_sub_one]
    simp [hi]
  · have e : ∀ z Y : Nat, z < 2 ^ k → (z + 2 ^ k * Y).testBit i = Y.testBit (i - k) := by
      intro z Y hz
      rw [Nat.add_comm, Nat.testBit_two_pow_mul_add _ hz]
      simp [hi]
    rw [e a X ha, e (2 ^ k - 1) M (by omega), e a (X &&& M) ha, Nat.testBit_and]
theorem mask_split (k n : Nat) : dg (2 * k) (List.replicate (n + 1) (2 ^ k - 1)) = (2 ^ k - 1) + 2 ^ k * (0 + 2 ^ k * dg (2 * k) (List.replicate n (2 ^ k - 1))) := by
  simp only [List.replicate_succ, dg]
  rw [Nat.zero_add, ← Nat.mul_assoc, ← Nat.pow_add, show k + k = 2 * k by omega]
/-- the lower halves -/
theorem and_evens (k : Nat) : ∀ (l : List Nat) (n : Nat), (∀ d ∈ l, d < 2 ^ k) → l.length = 2 * n → dg k l &&& dg (2 * k) (List.replicate n (2 ^ k - 1)) = dg (2 * k) (evens l)
  | [], 0, _, _ => by simp [dg, evens]
  | [], n + 1, _, h => by simp at h
  | [a], n, _, h => by simp at h; omega
  | a :: b :: r, 0, _, h => by simp at h
  | a :: b :: r, n + 1, hd, h => by
    have ih := and_evens k r n (fun d hd' => hd d (by simp [hd'])) (by simp at h; omega)
    have ha := hd a (by simp)
    have hb := hd b (by simp)
    rw [mask_split]
    simp only [dg, evens]
    rw [low_and ha]
    have e : (b + 2 ^ k * dg k r) &&& (0 + 2 ^ k * dg (2 * k) (List.replicate n (2 ^ k - 1))) = 2 ^ k * (dg k r &&& dg (2 * k) (List.replicate n (2 ^ k - 1))) := by
      apply Nat.eq_of_testBit_eq
      intro i
      rw [Nat.testBit_and, Nat.zero_add, Nat.add_comm b, Nat.testBit_two_pow_mul_add _ hb, Nat.testBit_two_pow_mul, Nat.testBit_two_pow_mul]
      by_cases hi : i < k
      · simp [hi, show ¬ k ≤ i by omega]
      · simp [hi, show k ≤ i by omega]
    rw [e, ih, ← Nat.mul_assoc, ← Nat.pow_add, show k + k = 2 * k by omega]
/-- the upper halves -/
theorem and_odds (k : Nat) : ∀ (l : List Nat) (n : Nat), (∀ d ∈ l, d < 2 ^ k) → l.length = 2 * n → (dg k l >>> k) &&& dg (2 * k) (List.replicate n (2 ^ k - 1)) = dg (2 * k) (odds l)
  | [], 0, _, _ => by simp [dg, odds]
  | [], n + 1, _, h => by simp at h
  | [a], n, _, h => by simp at h; omega
  | a :: b :: r, 0, _, h => by simp at h
  | a :: b :: r, n + 1, hd, h => by
    have ih := and_odds k r n (fun d hd' => hd d (by simp [hd'])) (by simp at h; omega)
    have ha := hd a (by simp)
    have hb := hd b (by simp)
    have hp : 0 < 2 ^ k := Nat.two_pow_pos k
    rw [mask_split]
    simp only [dg, odds]
    have e0 : (a + 2 ^ k * (b + 2 ^ k * dg k r)) >>> k = b + 2 ^ k * dg k r := by
      rw [Nat.shiftRight_eq_div_pow, Nat.add_mul_div_left _ _ hp, Nat.div_eq_of_lt ha, Nat.zero_add]
    rw [e0, low_and hb]
    have e : dg k r &&& (0 + 2 ^ k * dg (2 * k) (List.replicate n (2 ^ k - 1))) = 2 ^ k * ((dg k r >>> k) &&& dg (2 * k) (List.replicate n (2 ^ k - 1))) := by
      apply Nat.eq_of_testBit_eq
      intro i
      rw [Nat.testBit_and, Nat.zero_add, Nat.testBit_two_pow_mul, Nat.testBit_two_pow_mul, Nat.testBit_and, Nat.testBit_shiftRight]
      by_cases hi : k ≤ i
      · simp [hi, show k + (i - k) = i by omega]
      · simp [hi]
    rw [e, ih, ← Nat.mul_assoc, ← Nat.pow_add, show k + k = 2 * k by omega]
theorem dg_add (k : Nat) : ∀ l : List Nat, l.length % 2 = 0 → dg k (evens l) + dg k (odds l) = dg k (addP l)
  | [], _ => rfl
  | [a], h => by simp at h
  | a :: b :: r, h => by
    have ih := dg_add k r (by simp at h; omega)
    simp only [evens, odds, addP, dg]
    rw [← ih, Nat.mul_add]
    omega
theorem dg_sub (k : Nat) : ∀ l : List Nat, l.length % 2 = 0 → dg (2 * k) (pairUp k l) + dg (2 * k) (odds l) = dg (2 * k) (addP l) + 2 ^ k * dg (2 * k) (odds l)
  | [], _ => rfl
  | [a], h => by simp at h
  | a :: b :: r, h => by
    have ih := dg_sub k r (by simp at h; omega)
    simp only [pairUp, odds, addP, dg]
    have e := congrArg (fun z => 2 ^ (2 * k) * z) ih
    simp only [Nat.mul_add] at e
    have e2 : 2 ^ k * (2 ^ (2 * k) * dg (2 * k) (odds r)) = 2 ^ (2 * k) * (2 ^ k * dg (2 * k) (odds r)) := by
      rw [← Nat.mul_assoc, Nat.mul_comm (2 ^ k), Nat.mul_assoc]
    rw [Nat.mul_add, e2]
    omega
theorem addP_sum : ∀ l : List Nat, (addP l).sum = l.sum
  | [] => rfl
  | [a] => rfl
  | a :: b :: r => by
    have ih := addP_sum r
    simp only [addP, List.sum_cons, ih]
    omega
theorem addP_len : ∀ l : List Nat, l.length % 2 = 0 → (addP l).length * 2 = l.length
  | [], _ => rfl
  | [a], h => by simp at h
  | a :: b :: r, h => by
    have ih := addP_len r (by simp at h; omega)
    simp only [addP, List.length_cons]
    omega
theorem addP_le (m : Nat) : ∀ l : List Nat, (∀ d ∈ l, d ≤ m) → ∀ d ∈ addP l, d ≤ 2 * m
  | [], _, d, hd => by simp [addP] at hd
  | [a], h, d, hd => by
    simp only [addP, List.mem_singleton] at hd
    have := h a (by simp)
    omega
  | a :: b :: r, h, d, hd => by
    simp only [addP, List.mem_cons] at hd
    rcases hd with rfl | hd
    · have h1 := h a (by simp)
      have h2 := h b (by simp)
      omega
    · exact addP_le m r (fun d' hd' => h d' (by simp [hd'])) d hd
/-- what ones_in computes -/
def onesN (w : Nat) : Nat :=
  let a := w - ((w >>> 1) &&& 1431655765)
  let b := (a &&& 858993459) + ((a >>> 2) &&& 858993459)
  let c := (b &&& 252645135) + ((b >>> 4) &&& 252645135)
  let d := (c &&& 16711935) + ((c >>> 8) &&& 16711935)
  (d &&& 65535) + (d >>> 16)
theorem wordOf_dg : ∀ l : List Bool, wordOf l = dg 1 (l.map Bool.toNat)
  | [] => rfl
  | b :: r => by simp [wordOf, dg, wordOf_dg r]
theorem sum_count : ∀ l : List Bool, (l.map Bool.toNat).sum = l.count true
  | [] => rfl
  | b :: r => by
    have h := sum_count r
    cases b
    · simp [h]
    · simp [h]; omega
theorem ones_step {k n : Nat} {l : List Nat} {m : Nat} (hl : l.length = 2 * n) (hd : ∀ d ∈ l, d ≤ m) (hm : m < 2 ^ k) :
    (dg k l &&& dg (2 * k) (List.replicate n (2 ^ k - 1))) + ((dg k l >>> k) &&& dg (2 * k) (List.replicate n (2 ^ k - 1))) = dg (2 * k) (addP l) := by
  have hd' : ∀ d ∈ l, d < 2 ^ k := fun d h => Nat.lt_of_le_of_lt (hd d h) hm
  rw [and_evens k l n hd' hl, and_odds k l n hd' hl, dg_add _ l (by omega)]
theorem ones32 (l : List Bool) (h : l.length = 32) : onesN (wordOf l) = l.count true := by
  rw [wordOf_dg, ← sum_count]
  generalize hl0 : l.map Bool.toNat = l0
  have n0 : l0.length = 2 * 16 := by rw [← hl0, List.length_map, h]
  have d0 : ∀ d ∈ l0, d ≤ 1 := by
    intro d hd
    rw [← hl0, List.mem_map] at hd
    obtain ⟨b, _, rfl⟩ := hd
    cases b <;> decide
  have m1 : dg (2 * 1) (List.replicate 16 (2 ^ 1 - 1)) = 1431655765 := by decide
  have m2 : dg (2 * 2) (List.replicate 8 (2 ^ 2 - 1)) = 858993459 := by decide
  have m4 : dg (2 * 4) (List.replicate 4 (2 ^ 4 - 1)) = 252645135 := by decide
  have m8 : dg (2 * 8) (List.replicate 2 (2 ^ 8 - 1)) = 16711935 := by decide
  have m16 : dg (2 * 16) (List.replicate 1 (2 ^ 16 - 1)) = 65535 := by decide
  have n1 : (addP l0).length = 2 * 8 := by have := addP_len l0 (by omega); omega
  have n2 : (addP (addP l0)).length = 2 * 4 := by have := addP_len (addP l0) (by omega); omega
  have n3 : (addP (addP (addP l0))).length = 2 * 2 := by have := addP_len (addP (addP l0)) (by omega); omega
  have n4 : (addP (addP (addP (addP l0)))).length = 2 * 1 := by have := addP_len (addP (addP (addP l0))) (by omega); omega
  have d1 := addP_le 1 l0 d0
  have d2 := addP_le _ _ d1
  have d3 := addP_le _ _ d2
  have d4 := addP_le _ _ d3
  have s1 : dg 1 l0 - ((dg 1 l0 >>> 1) &&& 1431655765) = dg 2 (addP l0) := by
    have e := and_odds 1 l0 16 (fun d hd => by have := d0 d hd; omega) n0
    rw [m1] at e
    rw [e]
    have e2 := dg_sub 1 l0 (by omega)
    rw [dg_pairUp] at e2
    have e3 : dg (2 * 1) (addP l0) = dg 2 (addP l0) := rfl
    have e4 : (2 : Nat) ^ 1 = 2 := rfl
    rw [e4] at e2
    omega
  have s2 := ones_step (k := 2) n1 d1 (by decide)
  rw [m2] at s2
  have s3 := ones_step (k := 4) n2 d2 (by decide)
  rw [m4] at s3
  have s4 := ones_step (k := 8) n3 d3 (by decide)
  rw [m8] at s4
  unfold onesN
  simp only []
  rw [s1, s2]
  rw [show (2 * 2) = 4 from rfl, s3]
  rw [show (2 * 4) = 8 from rfl, s4]
  rw [show (2 * 8) = 16 from rfl]
  generalize hz : addP (addP (addP (addP l0))) = z at n4 d4
  have es : l0.sum = z.sum := by rw [← hz, addP_sum, addP_sum, addP_sum, addP_sum]
  rw [es]
  match z, n4, d4 with
  | [a, b], _, d4 =>
    have ha := d4 a (by simp)
    have hb := d4 b (by simp)
    have e1 : dg 16 [a, b] = a + 65536 * b := by simp [dg]
    rw [e1, Nat.shiftRight_eq_div_pow, show 65535 = 2 ^ 16 - 1 from rfl, Nat.and_two_pow_sub_one_eq_mod]
    simp only [List.sum_cons, List.sum_nil]
    omega
/-- ones_in tells how many bits are 1 -/
theorem ones_ok (l : List Bool) (h : l.length ≤ 32) : onesN (wordOf l) = l.count true := by
  have e := ones32 (l ++ List.replicate (32 - l.length) false) (by simp; omega)
  rw [wordOf_pad] at e
  rw [e, List.count_append, List.count_replicate]
  simp
/-! ### the so-many-th one -/
def clr : Nat → List Bool → List Bool
  | 0, l => l
  | _ + 1, [] => []
  | k + 1, false :: r => false :: clr (k + 1) r
  | k + 1, true :: r => false :: clr k r
theorem clr_zero (l : List Bool) : clr 0 l = l := by cases l <;> rfl
theorem clr_clr : ∀ (k : Nat) (l : List Bool), clr 1 (clr k l) = clr (k + 1) l
  | 0, l => by rw [clr_zero]
  | k + 1, [] => rfl
  | k + 1, false :: r => by
    show false :: clr 1 (clr (k + 1) r) = false :: clr (k + 2) r
    rw [clr_clr (k + 1) r]
  | k + 1, true :: r => by
    show false :: clr 1 (clr k r) = false :: clr (k + 1) r
    rw [clr_clr k r]
theorem and_two (a b : Nat) : (2 * a) &&& (2 * b + 1) = 2 * (a &&& b) := by
  apply Nat.eq_of_testBit_eq
  intro i
  rw [Nat.testBit_and]
  cases i with
  | zero => simp
  | succ i =>
    simp only [Nat.testBit_succ]
    rw [show 2 * a / 2 = a by omega, show (2 * b + 1) / 2 = b by omega, show 2 * (a &&& b) / 2 = (a &&& b) by omega, Nat.testBit_and]
theorem and_odd (a : Nat) : (2 * a + 1) &&& (2 * a) = 2 * a := by
  apply Nat.eq_of_testBit_eq
  intro i
  rw [Nat.testBit_and]
  cases i with
  | zero => simp
  | succ i =>
    simp only [Nat.testBit_succ]
    rw [show 2 * a / 2 = a by omega, show (2 * a + 1) / 2 = a by omega, Bool.and_self]
theorem wordOf_clr1 : ∀ l : List Bool, 0 < l.count true → wordOf l &&& (wordOf l - 1) = wordOf (clr 1 l) ∧ 0 < wordOf l
  | [], h => by simp at h
  | false :: r, h => by
    have ih := wordOf_clr1 r (by simpa using h)
    have e : wordOf (false :: r) = 2 * wordOf r := by simp [wordOf]
    have e2 : wordOf (clr 1 (false :: r)) = 2 * wordOf (clr 1 r) := by simp [clr, wordOf]
    rw [e, e2, ← ih.1]
    refine ⟨?_, by omega⟩
    rw [show 2 * wordOf r - 1 = 2 * (wordOf r - 1) + 1 by omega, and_two]
  | true :: r, _ => by
    have e : wordOf (true :: r) = 2 * wordOf r + 1 := by simp [wordOf]; omega
    have e2 : wordOf (clr 1 (true :: r)) = 2 * wordOf r := by simp [clr, wordOf]
    rw [e, e2]
    refine ⟨?_, by omega⟩
    rw [show 2 * wordOf r + 1 - 1 = 2 * wordOf r by omega, and_odd]
theorem clr_count : ∀ (k : Nat) (l : List Bool), (clr k l).count true = l.count true - k
  | 0, l => by rw [clr_zero, Nat.sub_zero]
  | k + 1, [] => by simp [clr]
  | k + 1, false :: r => by
    have ih := clr_count (k + 1) r
    simp only [clr]
    simp [ih]
  | k + 1, true :: r => by
    have ih := clr_count k r
    simp only [clr]
    simp [ih]
theorem clr_len : ∀ (k : Nat) (l : List Bool), (clr k l).length = l.length
  | 0, l => by rw [clr_zero]
  | k + 1, [] => by simp [clr]
  | k + 1, false :: r => by simp [clr, clr_len (k + 1) r]
  | k + 1, true :: r => by simp [clr, clr_len k r]
/-- ahead of the so-many-th one all is cleared, and there it stands -/
theorem clr_at : ∀ (l : List Bool) (k q : Nat), l[q]? = some true → (l.take q).count true = k → (clr k l)[q]? = some true ∧ ∀ j, j < q → (clr k l)[j]? = some false
  | [], k, q, h, _ => by simp at h
  | b :: r, k, 0, h, hk => by
    simp at hk
    subst hk
    exact ⟨h, fun j hj => absurd hj (Nat.not_lt_zero _)⟩
  | false :: r, k, q + 1, h, hk => by
    have hk' : (r.take q).count true = k := by simpa using hk
    have ih := clr_at r k q (by simpa using h) hk'
    cases k with
    | zero =>
      rw [clr_zero] at ih ⊢
      refine ⟨h, fun j hj => ?_⟩
      cases j with
      | zero => rfl
      | succ j => exact ih.2 j (by omega)
    | succ k =>
      refine ⟨ih.1, fun j hj => ?_⟩
      cases j with
      | zero => rfl
      | succ j => exact ih.2 j (by omega)
  | true :: r, k, q + 1, h, hk => by
    have hk' : (r.take q).count true + 1 = k := by simpa using hk
    subst hk'
    have ih := clr_at r _ q (by simpa using h) rfl
    refine ⟨ih.1, fun j hj => ?_⟩
    cases j with
    | zero => rfl
    | succ j => exact ih.2 j (by omega)
end TW
/-! M2: woods in groups: the row, its heights. Plain Lean. -/
namespace TW
def cn (n : Nat) (P : Nat → Bool) : Nat := (List.range n).countP P
theorem cn_zero (P : Nat → Bool) : cn 0 P = 0 := rfl
theorem cn_succ (n : Nat) (P : Nat → Bool) : cn (n + 1) P = cn n P + if P n = true then 1 else 0 := by
  unfold cn
  rw [List.range_succ, List.countP_append, List.countP_singleton]
theorem cn_le (n : Nat) (P : Nat → Bool) : cn n P ≤ n := by
  induction n with
  | zero => exact Nat.le_refl _
  | succ n ih => rw [cn_succ]; split <;> omega
theorem cn_congr {P Q : Nat → Bool} : ∀ {n : Nat}, (∀ j, j < n → P j = Q j) → cn n P = cn n Q
  | 0, _ => rfl
  | n + 1, h => by rw [cn_succ, cn_succ, cn_congr fun j hj => h j (by omega), h n (by omega)]
theorem cn_mono {P Q : Nat → Bool} : ∀ {n : Nat}, (∀ j, j < n → P j = true → Q j = true) → cn n P ≤ cn n Q
  | 0, _ => Nat.le_refl _
  | n + 1, h => by
    have ih := cn_mono (P := P) (Q := Q) (n := n) fun j hj => h j (by omega)
    have h1 := h n (by omega)
    rw [cn_succ, cn_succ]
    cases hp : P n with
    | false =>
      rw [if_neg (by decide)]
      split <;> omega
    | true =>
      rw [h1 hp]
      simp
      omega
/-- two that never hold at once -/
theorem cn_add {P Q R : Nat → Bool} : ∀ {n : Nat}, (∀ j, j < n → (R j = true ↔ P j = true ∨ Q j = true)) → (∀ j, j < n → P j = true → Q j = true → False) → cn n R = cn n P + cn n Q
  | 0, _, _ => rfl
  | n + 1, h, hd => by
    have ih := cn_add (P := P) (Q := Q) (R := R) (n := n) (fun j hj => h j (by omega)) fun j hj => hd j (by omega)
    have h1 := h n (by omega)
    have h2 := hd n (by omega)
    rw [cn_succ, cn_succ, cn_succ, ih]
    cases hp : P n <;> cases hq : Q n <;> cases hr : R n <;> simp_all <;> omega
/-- a stretch -/
theorem cn_between {a b : Nat} : ∀ {n : Nat}, a ≤ b → b ≤ n → cn n (fun j => decide (a ≤ j) && decide (j < b)) = b - a
  | 0, h1, h2 => by
    have : b = 0 := by omega
    subst this
    simp [cn_zero]
  | n + 1, h1, h2 => by
    rw [cn_succ]
    by_cases hb : b ≤ n
    · rw [cn_between h1 hb]
      have : ¬ (n < b) := by omega
      simp [this]
    · have e : b = n + 1 := by omega
      subst e
      by_cases ha : a ≤ n
      · have ih := cn_between (a := a) (b := n) (n := n) ha (Nat.le_refl _)
        have e2 : cn n (fun j => decide (a ≤ j) && decide (j < n + 1)) = cn n (fun j => decide (a ≤ j) && decide (j < n)) := cn_congr fun j hj => by
          have h1 : j < n + 1 := by omega
          simp [h1, hj]
        rw [e2, ih]
        simp [ha]
        omega
      · have e2 : cn n (fun j => decide (a ≤ j) && decide (j < n + 1)) = cn n (fun _ => false) := cn_congr fun j hj => by
          have : ¬ a ≤ j := by omega
          simp [this]
        have e3 : cn n (fun _ => false) = 0 := by unfold cn; simp
        rw [e2, e3]
        simp [ha]
        omega
section
variable (n : Nat) (p : Nat → Nat)
/-- how many hang in group g -/
def cg (g : Nat) : Nat := cn n fun j => p j == g
/-- how many hang in the groups ahead of g -/
def lg (g : Nat) : Nat := cn n fun j => decide (p j < g)
/-- where group g begins -/
def low (g : Nat) : Nat := lg n p g + g
/-- the height there, in the row with one more 1 ahead -/
def dg' (g : Nat) : Int := 1 + (lg n p g : Int) - (g : Int)
def rowTo : Nat → List Bool
  | 0 => []
  | g + 1 => rowTo g ++ (List.replicate (cg n p g) true ++ [false])
/-- the row by children counted -/
def row : List Bool := rowTo n p (n + 1)
theorem lg_zero : lg n p 0 = 0 := by
  unfold lg cn
  simp
theorem lg_succ (g : Nat) : lg n p (g + 1) = lg n p g + cg n p g := by
  unfold lg cg
  refine cn_add (fun j _ => ?_) (fun j _ h1 h2 => ?_)
  · simp; omega
  · simp at h1 h2; omega
theorem low_zero : low n p 0 = 0 := by simp [low, lg_zero]
theorem low_succ (g : Nat) : low n p (g + 1) = low n p g + cg n p g + 1 := by
  simp [low, lg_succ]; omega
theorem lg_mono {a b : Nat} (h : a ≤ b) : lg n p a ≤ lg n p b := cn_mono fun j _ hj => by simp at hj ⊢; omega
theorem low_mono {a b : Nat} (h : a ≤ b) : low n p a ≤ low n p b := by
  have := lg_mono n p h
  simp only [low]; omega
theorem rowTo_len : ∀ g, (rowTo n p g).length = low n p g
  | 0 => by simp [rowTo, low_zero]
  | g + 1 => by
    have ih := rowTo_len g
    simp [rowTo, low_succ, ih]
    omega
theorem rowTo_count : ∀ g, (rowTo n p g).count true = lg n p g
  | 0 => by simp [rowTo, lg_zero]
  | g + 1 => by
    have ih := rowTo_count g
    simp [rowTo, lg_succ, ih]
theorem rowTo_pre : ∀ {a b : Nat}, a ≤ b → ∃ r, rowTo n p b = rowTo n p a ++ r
  | a, 0, h => by
    have : a = 0 := by omega
    subst this
    exact ⟨[], by simp⟩
  | a, b + 1, h => by
    by_cases e : a = b + 1
    · subst e
      exact ⟨[], by simp⟩
    · obtain ⟨r, hr⟩ := rowTo_pre (a := a) (b := b) (by omega)
      exact ⟨r ++ (List.replicate (cg n p b) true ++ [false]), by simp [rowTo, hr]⟩
theorem row_split {g : Nat} (hg : g ≤ n) : ∃ r, row n p = rowTo n p g ++ (List.replicate (cg n p g) true ++ false :: r) := by
  obtain ⟨r, hr⟩ := rowTo_pre n p (a := g + 1) (b := n + 1) (by omega)
  refine ⟨r, ?_⟩
  unfold row
  rw [hr]
  simp [rowTo]
theorem row_rk {g t : Nat} (hg : g ≤ n) (ht : t ≤ cg n p g) : rk (row n p) (low n p g + t) = lg n p g + t := by
  obtain ⟨r, hr⟩ := row_split n p hg
  unfold rk
  rw [hr, List.take_append, rowTo_len, List.take_of_length_le (by rw [rowTo_len]; omega), Nat.add_sub_cancel_left, List.take_append]
  rw [List.count_append, rowTo_count, List.take_replicate, List.length_replicate, Nat.sub_eq_zero_of_le ht]
  simp
  omega
theorem row_one {g t : Nat} (hg : g ≤ n) (ht : t < cg n p g) : (row n p)[low n p g + t]? = some true := by
  obtain ⟨r, hr⟩ := row_split n p hg
  rw [hr, List.getElem?_append_right (by rw [rowTo_len]; omega), rowTo_len, Nat.add_sub_cancel_left, List.getElem?_append_left (by simpa using ht)]
  simp [ht]
theorem row_nought {g : Nat} (hg : g ≤ n) : (row n p)[low n p g + cg n p g]? = some false := by
  obtain ⟨r, hr⟩ := row_split n p hg
  rw [hr, List.getElem?_append_right (by rw [rowTo_len]; omega), rowTo_len, Nat.add_sub_cancel_left, List.getElem?_append_right (by simp)]
  simp
theorem lg_all (hp : ∀ k, k < n → p k ≤ k) : lg n p (n + 1) = n := by
  have h : lg n p (n + 1) = cn n fun _ => true := cn_congr fun j hj => by
    have := hp j hj
    simp; omega
  rw [h]
  unfold cn
  simp
theorem low_all (hp : ∀ k, k < n → p k ≤ k) : low n p (n + 1) = 2 * n + 1 := by
  simp only [low, lg_all n p hp]; omega
theorem row_len (hp : ∀ k, k < n → p k ≤ k) : (row n p).length = 2 * n + 1 := by
  unfold row
  rw [rowTo_len, low_all n p hp]
/-- each place of the row lies in a group -/
theorem place_group : ∀ (g i : Nat), i < low n p g → ∃ m t, m < g ∧ t ≤ cg n p m ∧ i = low n p m + t
  | 0, i, h => by rw [low_zero] at h; omega
  | g + 1, i, h => by
    by_cases hi : i < low n p g
    · obtain ⟨m, t, h1, h2, h3⟩ := place_group g i hi
      exact ⟨m, t, by omega, h2, h3⟩
    · rw [low_succ] at h
      exact ⟨g, i - low n p g, by omega, by omega, by omega⟩
/-! ### the row with one more 1 ahead -/
def prow : List Bool := true :: row n p
theorem rk_cons (b : Bool) (l : List Bool) (i : Nat) : rk (b :: l) (i + 1) = b.toNat + rk l i := by
  unfold rk
  rw [List.take_succ_cons, List.count_cons]
  cases b <;> simp <;> omega
theorem prow_ht {g t : Nat} (hg : g ≤ n) (htt : t ≤ cg n p g) : ht (prow n p) (low n p g + t + 1) = dg' n p g + t := by
  unfold ht prow
  rw [rk_cons, row_rk n p hg htt]
  simp only [low, dg', Bool.toNat_true]
  omega
theorem rk_all (l : List Bool) {i : Nat} (h : l.length ≤ i) : rk l i = l.count true := by
  unfold rk
  rw [List.take_of_length_le h]
theorem prow_len (hp : ∀ k, k < n → p k ≤ k) : (prow n p).length = 2 * n + 2 := by
  simp [prow, row_len n p hp]
theorem row_rk_all (hp : ∀ k, k < n → p k ≤ k) {g : Nat} (hg : g ≤ n + 1) : rk (row n p) (low n p g) = lg n p g := by
  by_cases e : g ≤ n
  · have := row_rk n p e (Nat.zero_le _)
    simpa using this
  · have eg : g = n + 1 := by omega
    subst eg
    rw [rk_all _ (by rw [row_len n p hp, low_all n p hp]; omega)]
    exact rowTo_count n p (n + 1)
theorem prow_ht0 (hp : ∀ k, k < n → p k ≤ k) {g : Nat} (hg : g ≤ n + 1) : ht (prow n p) (low n p g + 1) = dg' n p g := by
  unfold ht prow
  rw [rk_cons, row_rk_all n p hp hg]
  simp only [low, dg', Bool.toNat_true]
  omega
/-! ### the wood -/
variable (hp : ∀ k, k < n → p k ≤ k) (nc : ∀ k j, k < n → j < k → p k ≤ j → p k ≤ p j)
/-- so many stand left of k -/
def ct (k : Nat) : Nat := cn k fun j => p j == p k
theorem cn_split {P : Nat → Bool} : ∀ {n : Nat} {k : Nat}, k ≤ n → cn n P = cn k P + cn n (fun j => decide (k ≤ j) && P j)
  | 0, k, h => by
    have : k = 0 := by omega
    subst this
    rfl
  | n + 1, k, h => by
    by_cases e : k = n + 1
    · subst e
      have : cn (n + 1) (fun j => decide (n + 1 ≤ j) && P j) = cn (n + 1) (fun _ => false) := cn_congr fun j hj => by
        have : ¬ n + 1 ≤ j := by omega
        simp [this]
      rw [this]
      unfold cn
      simp
    · have ih := cn_split (P := P) (n := n) (k := k) (by omega)
      have hk : k ≤ n := by omega
      rw [cn_succ, cn_succ, ih]
      simp [hk]
      omega
/-- how many of group p k hang right of k -/
def cr (k : Nat) : Nat := cn n fun j => decide (k + 1 ≤ j) && (p j == p k)
theorem cg_parts {k : Nat} (hk : k < n) : cg n p (p k) = ct p k + 1 + cr n p k := by
  unfold cg ct cr
  rw [cn_split (n := n) (k := k + 1) (by omega), cn_succ]
  simp
theorem dg_diff {a b : Nat} (h : a ≤ b) : dg' n p b = dg' n p a + (cn n (fun j => decide (a ≤ p j) && decide (p j < b)) : Int) - ((b : Int) - (a : Int)) := by
  have e : lg n p b = lg n p a + cn n (fun j => decide (a ≤ p j) && decide (p j < b)) := by
    unfold lg
    refine cn_add (fun j _ => ?_) (fun j _ h1 h2 => ?_)
    · simp; omega
    · simp at h1 h2; omega
  simp only [dg', e]
  omega
include hp nc in
/-- claim 1 -/
theorem claim1 {k : Nat} (hk : k < n) : dg' n p (k + 1) = dg' n p (p k) + (cr n p k : Int) := by
  have hpk := hp k hk
  rw [dg_diff n p (a := p k) (b := k + 1) (by omega)]
  have e : cn n (fun j => decide (p k ≤ p j) && decide (p j < k + 1)) = (k + 1 - p k) + cr n p k := by
    have e1 := cn_between (a := p k) (b := k + 1) (n := n) (by omega) (by omega)
    rw [← e1]
    unfold cr
    refine cn_add (fun j hj => ?_) (fun j _ h1 h2 => ?_)
    · have hpj := hp j hj
      simp only [Bool.and_eq_true, decide_eq_true_eq, beq_iff_eq]
      constructor
      · rintro ⟨h1, h2⟩
        by_cases hjk : j < k + 1
        · exact .inl ⟨by omega, hjk⟩
        · have := nc j k hj (by omega) (by omega)
          exact .inr ⟨by omega, by omega⟩
      · rintro (⟨h1, h2⟩ | ⟨h1, h2⟩)
        · by_cases hjk : j = k
          · subst hjk
            omega
          · have := nc k j hk (by omega) h1
            omega
        · omega
    · simp at h1 h2; omega
  rw [e]
  omega
include hp nc in
/-- claim 2 -/
theorem claim2 {k m : Nat} (hk : k < n) (h1 : p k < m) (h2 : m ≤ k) : dg' n p (k + 1) < dg' n p m := by
  rw [dg_diff n p (a := m) (b := k + 1) (by omega)]
  have e : cn n (fun j => decide (m ≤ p j) && decide (p j < k + 1)) ≤ k - m := by
    have e1 := cn_between (a := m) (b := k) (n := n) (by omega) (by omega)
    rw [← e1]
    refine cn_mono fun j hj h => ?_
    have hpj := hp j hj
    simp only [Bool.and_eq_true, decide_eq_true_eq] at h ⊢
    by_cases hjk : j ≤ k
    · by_cases e : j = k
      · subst e
        omega
      · omega
    · have := nc j k hj (by omega) (by omega)
      omega
  omega
/-- what is behind k -/
structure IsB (k b : Nat) : Prop where
  lt : k < b
  le : b ≤ n
  inn : ∀ j, k < j → j < b → k < p j
  out : b < n → p b ≤ k
include hp nc in
theorem claim3 {k b m : Nat} (B : IsB n p k b) (h1 : k + 1 ≤ m) (h2 : m ≤ b) : dg' n p (k + 1) ≤ dg' n p m := by
  rw [dg_diff n p (a := k + 1) (b := m) h1]
  have e : m - (k + 1) ≤ cn n (fun j => decide (k + 1 ≤ p j) && decide (p j < m)) := by
    have e1 := cn_between (a := k + 1) (b := m) (n := n) h1 (Nat.le_trans h2 B.le)
    rw [← e1]
    refine cn_mono fun j hj h => ?_
    have hpj := hp j hj
    simp only [Bool.and_eq_true, decide_eq_true_eq] at h ⊢
    have := B.inn j (by omega) (by omega)
    omega
  omega
include hp nc in
theorem claim4 {k b : Nat} (B : IsB n p k b) : dg' n p (b + 1) = dg' n p (k + 1) - 1 := by
  have l1 := B.lt
  have l2 := B.le
  rw [dg_diff n p (a := k + 1) (b := b + 1) (by omega)]
  have e : cn n (fun j => decide (k + 1 ≤ p j) && decide (p j < b + 1)) = b - (k + 1) := by
    have e1 := cn_between (a := k + 1) (b := b) (n := n) (by omega) l2
    rw [← e1]
    refine cn_congr fun j hj => ?_
    have hpj := hp j hj
    rw [Bool.eq_iff_iff]
    simp only [Bool.and_eq_true, decide_eq_true_eq]
    constructor
    · rintro ⟨h3, h4⟩
      refine ⟨by omega, ?_⟩
      by_cases hb : j < b
      · exact hb
      · have ho := B.out (by omega)
        by_cases e : j = b
        · subst e
          omega
        · have := nc j b hj (by omega) (by omega)
          omega
    · rintro ⟨h3, h4⟩
      have := B.inn j (by omega) h4
      omega
  rw [e]
  omega
include hp in
/-- a knot stands open there -/
theorem dg_pos {g : Nat} (hg : g ≤ n) : 1 ≤ dg' n p g := by
  have e : g ≤ lg n p g := by
    have e1 := cn_between (a := 0) (b := g) (n := n) (by omega) hg
    unfold lg
    rw [← show g - 0 = g by omega, ← e1]
    refine cn_mono fun j hj h => ?_
    have hpj := hp j hj
    simp only [Bool.and_eq_true, decide_eq_true_eq] at h ⊢
    omega
  simp only [dg']
  omega
end
end TW
/-! M3: woods as lists of elders. Plain Lean. -/
namespace TW
/-- es is a wood, w the way to its last knot -/
inductive Wd : List Int → List Int → Prop
  | nil : Wd [] []
  | snoc {es w : List Int} {a : Nat} {e : Int} (h : Wd es w) (ha : a ≤ w.length) (he : (-1 :: w)[a]? = some e) : Wd (es ++ [e]) (w.take a ++ [(es.length : Int)])
theorem Wd.asc {es w : List Int} (h : Wd es w) : w.Pairwise (· < ·) ∧ ∀ x ∈ w, 0 ≤ x ∧ x < (es.length : Int) := by
  induction h with
  | nil => exact ⟨List.Pairwise.nil, fun x hx => by simp at hx⟩
  | @snoc es w a e h ha he ih =>
    obtain ⟨h1, h2⟩ := ih
    refine ⟨?_, ?_⟩
    · rw [List.pairwise_append]
      refine ⟨h1.sublist (List.take_sublist a w), List.pairwise_singleton _ _, fun x hx y hy => ?_⟩
      have := (h2 x (List.mem_of_mem_take hx)).2
      simp at hy
      omega
    · intro x hx
      simp only [List.length_append, List.length_singleton]
      rcases List.mem_append.mp hx with hx | hx
      · have := h2 x (List.mem_of_mem_take hx)
        omega
      · simp at hx
        omega
theorem Wd.asc1 {es w : List Int} (h : Wd es w) : (-1 :: w).Pairwise (· < ·) := by
  obtain ⟨h1, h2⟩ := h.asc
  rw [List.pairwise_cons]
  exact ⟨fun x hx => by have := (h2 x hx).1; omega, h1⟩
theorem asc_inj {l : List Int} (h : l.Pairwise (· < ·)) {i j : Nat} {x : Int} (hi : l[i]? = some x) (hj : l[j]? = some x) : i = j := by
  rw [List.pairwise_iff_getElem] at h
  obtain ⟨li, ei⟩ := List.getElem?_eq_some_iff.mp hi
  obtain ⟨lj, ej⟩ := List.getElem?_eq_some_iff.mp hj
  rcases Nat.lt_trichotomy i j with q | q | q
  · have := h i j li lj q
    omega
  · exact q
  · have := h j i lj li q
    omega
theorem asc_le {l : List Int} (h : l.Pairwise (· < ·)) {i j : Nat} {x y : Int} (hi : l[i]? = some x) (hj : l[j]? = some y) (hij : i ≤ j) : x ≤ y := by
  rw [List.pairwise_iff_getElem] at h
  obtain ⟨li, ei⟩ := List.getElem?_eq_some_iff.mp hi
  obtain ⟨lj, ej⟩ := List.getElem?_eq_some_iff.mp hj
  by_cases q : i = j
  · subst q
    omega
  · have := h i j li lj (by omega)
    omega
theorem Wd.det {es w v : List Int} (h : Wd es w) : Wd es v → w = v := by
  induction h generalizing v with
  | nil =>
    intro h2
    generalize hz : ([] : List Int) = z at h2
    cases h2 with
    | nil => rfl
    | snoc h ha he => simp at hz
  | @snoc es w a e h ha he ih =>
    intro h2
    generalize hz : es ++ [e] = z at h2
    cases h2 with
    | nil => simp at hz
    | @snoc es2 w2 a2 e2 h2 ha2 he2 =>
      obtain ⟨q1, q2⟩ := List.append_inj' hz rfl
      subst q1
      have q3 : e = e2 := by simpa using q2
      subst q3
      have q4 := ih h2
      subst q4
      have q5 := asc_inj h.asc1 he he2
      subst q5
      rfl
theorem Wd.pre {es w : List Int} (h : Wd es w) : ∀ i, i ≤ es.length → ∃ v, Wd (es.take i) v := by
  induction h with
  | nil => exact fun i _ => ⟨[], by simpa using Wd.nil⟩
  | @snoc es w a e h ha he ih =>
    intro i hi
    by_cases q : i ≤ es.length
    · obtain ⟨v, hv⟩ := ih i q
      exact ⟨v, by rw [List.take_append_of_le_length q]; exact hv⟩
    · rw [List.length_append, List.length_singleton] at hi
      exact ⟨_, by rw [List.take_of_length_le (by simp; omega)]; exact Wd.snoc h ha he⟩
/-- what the next knot hangs on -/
theorem Wd.next {es w : List Int} (h : Wd es w) {i : Nat} {e : Int} (hi : es[i]? = some e) {v : List Int} (hv : Wd (es.take i) v) : ∃ a, a ≤ v.length ∧ (-1 :: v)[a]? = some e ∧ Wd (es.take (i + 1)) (v.take a ++ [(i : Int)]) := by
  obtain ⟨li, ei⟩ := List.getElem?_eq_some_iff.mp hi
  obtain ⟨u, hu⟩ := h.pre (i + 1) (by omega)
  have e1 : es.take (i + 1) = es.take i ++ [e] := by rw [List.take_add_one, hi]; rfl
  rw [e1] at hu
  generalize hz : es.take i ++ [e] = z at hu
  cases hu with
  | nil => simp at hz
  | @snoc es2 w2 a2 e2 h2 ha2 he2 =>
    obtain ⟨q1, q2⟩ := List.append_inj' hz rfl
    have q3 : e = e2 := by simpa using q2
    subst q3
    subst q1
    have q4 := h2.det hv
    subst q4
    have q5 := Wd.snoc h2 ha2 he2
    rw [List.length_take, Nat.min_eq_left (by omega)] at q5
    exact ⟨a2, ha2, he2, by rw [e1]; exact q5⟩
theorem Wd.lt {es w : List Int} (h : Wd es w) {i : Nat} {e : Int} (hi : es[i]? = some e) : -1 ≤ e ∧ e < (i : Int) := by
  obtain ⟨li, ei⟩ := List.getElem?_eq_some_iff.mp hi
  obtain ⟨v, hv⟩ := h.pre i (by omega)
  obtain ⟨a, ha, he, _⟩ := h.next hi hv
  have hm := List.mem_of_getElem? he
  rcases List.mem_cons.mp hm with q | q
  · omega
  · have := hv.asc.2 e q
    rw [List.length_take] at this
    omega
/-- all that stands on the way is an elder of what is behind -/
theorem Wd.way {es w : List Int} (h : Wd es w) : ∀ a ∈ (-1 :: w), ∀ (j : Nat) (e : Int), a < (j : Int) → es[j]? = some e → a ≤ e := by
  induction h with
  | nil => exact fun a _ j e _ hj => by simp at hj
  | @snoc es w b e0 h hb he ih =>
    intro a ha j e hj hje
    have ha2 : a ∈ (-1 :: w).take (b + 1) ∨ a = (es.length : Int) := by
      rcases List.mem_cons.mp ha with q | q
      · left
        simp [q]
      · rcases List.mem_append.mp q with q | q
        · left
          simp [q]
        · right
          simpa using q
    obtain ⟨lj, _⟩ := List.getElem?_eq_some_iff.mp hje
    rw [List.length_append, List.length_singleton] at lj
    rcases ha2 with ha2 | ha2
    · by_cases q : j < es.length
      · rw [List.getElem?_append_left q] at hje
        exact ih a (List.mem_of_mem_take ha2) j e hj hje
      · have ej : j = es.length := by omega
        subst ej
        rw [List.getElem?_append_right (Nat.le_refl _)] at hje
        have ee : e0 = e := by simpa using hje
        subst ee
        obtain ⟨i, hi⟩ := List.getElem?_of_mem ha2
        rw [List.getElem?_take] at hi
        split at hi
        · exact asc_le h.asc1 hi he (by omega)
        · simp at hi
    · omega
/-- the elder of j, by one up -/
def pf (es : List Int) (j : Nat) : Nat := ((es[j]?).getD 0 + 1).toNat
theorem pf_at {es : List Int} {j : Nat} {e : Int} (h : es[j]? = some e) : pf es j = (e + 1).toNat := by
  simp [pf, h]
theorem Wd.hp {es w : List Int} (h : Wd es w) : ∀ k, k < es.length → pf es k ≤ k := by
  intro k hk
  have e := List.getElem?_eq_getElem hk
  have := h.lt e
  rw [pf_at e]
  omega
theorem Wd.nc {es w : List Int} (h : Wd es w) : ∀ k j, k < es.length → j < k → pf es k ≤ j → pf es k ≤ pf es j := by
  intro k j hk hj hp
  have ek := List.getElem?_eq_getElem hk
  have ej := List.getElem?_eq_getElem (show j < es.length by omega)
  obtain ⟨v, hv⟩ := h.pre k (by omega)
  obtain ⟨a, ha, he, _⟩ := h.next ek hv
  have lk := h.lt ek
  have lj := h.lt ej
  rw [pf_at ek] at hp ⊢
  rw [pf_at ej]
  have ej2 : (es.take k)[j]? = some es[j] := by rw [List.getElem?_take_of_lt hj]; exact ej
  have := hv.way _ (List.mem_of_getElem? he) j es[j] (by omega) ej2
  omega
/-! ### woods side by side, or hung on the last knot -/
theorem Wd.last {es w : List Int} (h : Wd es w) (hn : es ≠ []) : w ≠ [] ∧ w[w.length - 1]? = some ((es.length : Int) - 1) := by
  cases h with
  | nil => exact absurd rfl hn
  | @snoc es w a e h ha he =>
    refine ⟨by simp, ?_⟩
    simp only [List.length_append, List.length_singleton, Nat.add_sub_cancel]
    rw [List.getElem?_append_right (Nat.le_refl _), Nat.sub_self]
    simp
theorem Wd.rep {gs w fs v : List Int} {base : Int} (hg : Wd gs w) (hf : Wd fs v) (hb : base = -1 ∨ (gs ≠ [] ∧ base = (gs.length : Int) - 1)) :
    ∃ u, Wd (gs ++ fs.map fun e => if e < 0 then base else e + (gs.length : Int)) u ∧ ((fs = [] ∧ u = w) ∨ (fs ≠ [] ∧ u = (if base = -1 then [] else w) ++ v.map fun x => x + (gs.length : Int))) := by
  induction hf with
  | nil => exact ⟨w, by simpa using hg, .inl ⟨rfl, rfl⟩⟩
  | @snoc fs v a e hf ha he ih =>
    obtain ⟨u, hu, hcase⟩ := ih
    have vpos : ∀ x ∈ v, 0 ≤ x := fun x hx => (hf.asc.2 x hx).1
    have key : ∃ b, b ≤ u.length ∧ (-1 :: u)[b]? = some (if e < 0 then base else e + (gs.length : Int)) ∧ u.take b = (if base = -1 then [] else w) ++ (v.take a).map fun x => x + (gs.length : Int) := by
      cases a with
      | zero =>
        have ee : e = -1 := by simpa using he.symm
        subst ee
        rw [if_pos (by decide)]
        by_cases hb1 : base = -1
        · refine ⟨0, Nat.zero_le _, by simp [hb1], by simp [hb1]⟩
        · obtain ⟨gn, eb⟩ : gs ≠ [] ∧ base = (gs.length : Int) - 1 := by
            rcases hb with q | q
            · exact absurd q hb1
            · exact q
          obtain ⟨wn, wl⟩ := hg.last gn
          have wp : 0 < w.length := List.length_pos_iff.mpr wn
          have hu2 : ∃ r, u = w ++ r := by
            rcases hcase with ⟨_, q⟩ | ⟨_, q⟩
            · exact ⟨[], by simp [q]⟩
            · rw [if_neg hb1] at q
              exact ⟨_, q⟩
          obtain ⟨r, rfl⟩ := hu2
          refine ⟨w.length, by simp, ?_, ?_⟩
          · rw [show w.length = (w.length - 1) + 1 by omega, List.getElem?_cons_succ, List.getElem?_append_left (by omega), wl, eb]
          · simp [hb1]
      | succ a =>
        rw [List.getElem?_cons_succ] at he
        have vn : v ≠ [] := by
          rintro rfl
          simp at he
        have fn : fs ≠ [] := by
          rintro rfl
          exact vn (hf.det Wd.nil)
        obtain ⟨_, hu2⟩ : fs ≠ [] ∧ u = (if base = -1 then [] else w) ++ v.map fun x => x + (gs.length : Int) := by
          rcases hcase with ⟨q, _⟩ | q
          · exact absurd q fn
          · exact q
        have e0 : 0 ≤ e := vpos e (List.mem_of_getElem? he)
        rw [if_neg (by omega)]
        generalize (if base = -1 then [] else w) = pr at hu2 ⊢
        subst hu2
        refine ⟨pr.length + (a + 1), by simp; omega, ?_, ?_⟩
        · rw [← Nat.add_assoc, List.getElem?_cons_succ, List.getElem?_append_right (by omega), Nat.add_sub_cancel_left, List.getElem?_map, he]
          rfl
        · rw [List.take_append, List.take_of_length_le (by omega), Nat.add_sub_cancel_left, List.map_take]
    obtain ⟨b, hb2, hb3, hb4⟩ := key
    have q := Wd.snoc hu hb2 hb3
    refine ⟨_, by simpa using q, .inr ⟨by simp, ?_⟩⟩
    rw [hb4]
    simp
    omega
end TW
/-! M4: pairs and stretches of the row, by heights. Plain Lean. -/
namespace TW
theorem rk_succ {bs : List Bool} {i : Nat} {b : Bool} (h : bs[i]? = some b) : rk bs (i + 1) = rk bs i + b.toNat := by
  unfold rk
  rw [List.take_add_one, h, List.count_append]
  cases b <;> simp
theorem ht_zero (bs : List Bool) : ht bs 0 = 0 := by simp [ht, rk]
theorem ht_succ {bs : List Bool} {i : Nat} {b : Bool} (h : bs[i]? = some b) : ht bs (i + 1) = ht bs i + (2 * (b.toNat : Int) - 1) := by
  unfold ht
  rw [rk_succ h]
  omega
theorem ht_step {bs : List Bool} {i : Nat} (h : i < bs.length) : (bs[i]? = some true ∧ ht bs (i + 1) = ht bs i + 1) ∨ (bs[i]? = some false ∧ ht bs (i + 1) = ht bs i - 1) := by
  have e := List.getElem?_eq_getElem h
  have e2 := ht_succ e
  cases hb : bs[i] with
  | true =>
    rw [hb] at e e2
    exact .inl ⟨e, by simpa using e2⟩
  | false =>
    rw [hb] at e e2
    exact .inr ⟨e, by simp at e2; omega⟩
/-- a height that is passed upward is met, and stays below behind the last time -/
theorem met {bs : List Bool} {v : Int} : ∀ (b : Nat), b ≤ bs.length → ht bs 0 ≤ v → v < ht bs b → ∃ q, q < b ∧ ht bs q = v ∧ ∀ j, q < j → j ≤ b → v < ht bs j
  | 0, _, h1, h2 => by omega
  | b + 1, hb, h1, h2 => by
    rcases ht_step (show b < bs.length by omega) with ⟨_, s⟩ | ⟨_, s⟩
    · by_cases e : ht bs b = v
      · exact ⟨b, by omega, e, fun j hj hj2 => by have : j = b + 1 := by omega
                                                  subst this
                                                  exact h2⟩
      · obtain ⟨q, h3, h4, h5⟩ := met b (by omega) h1 (by omega)
        refine ⟨q, by omega, h4, fun j hj hj2 => ?_⟩
        by_cases e2 : j = b + 1
        · subst e2
          exact h2
        · exact h5 j hj (by omega)
    · obtain ⟨q, h3, h4, h5⟩ := met b (by omega) h1 (by omega)
      refine ⟨q, by omega, h4, fun j hj hj2 => ?_⟩
      by_cases e2 : j = b + 1
      · subst e2
        exact h2
      · exact h5 j hj (by omega)
section
variable {n : Nat} {p : Nat → Nat} (hp : ∀ k, k < n → p k ≤ k) (nc : ∀ k j, k < n → j < k → p k ≤ j → p k ≤ p j)
/-- each place but the first and the last lies in a group -/
theorem ht_at {i : Nat} (h1 : 0 < i) (h2 : i ≤ low n p (n + 1)) : ∃ g t, g ≤ n ∧ t ≤ cg n p g ∧ i = low n p g + t + 1 ∧ ht (prow n p) i = dg' n p g + t := by
  obtain ⟨g, t, h3, h4, h5⟩ := place_group n p (n + 1) (i - 1) (by omega)
  have e : i = low n p g + t + 1 := by omega
  refine ⟨g, t, by omega, h4, e, ?_⟩
  rw [e]
  exact prow_ht n p (by omega) h4
include hp in
theorem ht_nonneg {i : Nat} (h : i ≤ (prow n p).length) : 0 ≤ ht (prow n p) i := by
  rw [prow_len n p hp] at h
  have e := low_all n p hp
  by_cases h0 : i = 0
  · subst h0
    rw [ht_zero]
    omega
  · by_cases h1 : i ≤ low n p (n + 1)
    · obtain ⟨g, t, hg, _, _, q⟩ := ht_at (n := n) (p := p) (i := i) (by omega) h1
      have := dg_pos n p hp hg
      omega
    · have e2 : i = low n p (n + 1) + 1 := by omega
      rw [e2, prow_ht0 n p hp (Nat.le_refl _)]
      simp only [dg', lg_all n p hp]
      omega
include hp in
theorem ht_end : ht (prow n p) (prow n p).length = 0 := by
  rw [prow_len n p hp, show 2 * n + 2 = low n p (n + 1) + 1 by rw [low_all n p hp], prow_ht0 n p hp (Nat.le_refl _)]
  simp only [dg', lg_all n p hp]
  omega
theorem low_lt_group {a g : Nat} (h : low n p a ≤ low n p g + cg n p g) : a ≤ g := by
  by_cases q : a ≤ g
  · exact q
  · have := low_mono n p (a := g + 1) (b := a) (by omega)
    rw [low_succ] at this
    omega
theorem low_ge_group {a g t : Nat} (h : low n p g + t < low n p a) : g < a := by
  by_cases q : g < a
  · exact q
  · have := low_mono n p (a := a) (b := g) (by omega)
    omega
/-- where knot k's 1 stands in the row with one more 1 ahead -/
def sg (n : Nat) (p : Nat → Nat) (k : Nat) : Nat := low n p (p k) + cr n p k + 1
include hp nc in
/-- the pair of the nought ahead of k's group -/
theorem pair_of {k : Nat} (hk : k < n) : (prow n p)[low n p (k + 1)]? = some false ∧ (prow n p)[sg n p k]? = some true ∧ sg n p k ≤ low n p (k + 1) ∧ ht (prow n p) (sg n p k) = ht (prow n p) (low n p (k + 1) + 1) ∧
    (∀ j, sg n p k < j → j < low n p (k + 1) + 1 → ht (prow n p) (low n p (k + 1) + 1) < ht (prow n p) j) := by
  have hpk := hp k hk
  have parts := cg_parts n p hk
  have hz : ht (prow n p) (low n p (k + 1) + 1) = dg' n p (k + 1) := prow_ht0 n p hp (by omega)
  have hq : ht (prow n p) (sg n p k) = dg' n p (p k) + (cr n p k : Int) := prow_ht n p (by omega) (by omega)
  have c1 := claim1 n p hp nc hk
  have l1 : low n p (p k + 1) ≤ low n p (k + 1) := low_mono n p (by omega)
  rw [low_succ] at l1
  refine ⟨?_, ?_, ?_, ?_, ?_⟩
  · show (true :: row n p)[low n p (k + 1)]? = some false
    rw [low_succ, List.getElem?_cons_succ]
    exact row_nought n p (by omega)
  · show (true :: row n p)[low n p (p k) + cr n p k + 1]? = some true
    rw [List.getElem?_cons_succ]
    exact row_one n p (by omega) (by omega)
  · unfold sg
    omega
  · rw [hz, hq]
    omega
  · intro j h1 h2
    rw [hz]
    have hall := low_mono n p (a := k + 1) (b := n + 1) (by omega)
    obtain ⟨g, t, hg, htt, ej, hj⟩ := ht_at (n := n) (p := p) (i := j) (by omega) (by omega)
    rw [hj]
    unfold sg at h1
    have g1 : p k ≤ g := low_lt_group (n := n) (p := p) (by omega)
    have g2 : g < k + 1 := low_ge_group (n := n) (p := p) (t := t) (by omega)
    by_cases e : g = p k
    · rw [e] at ej ⊢
      have : cr n p k < t := by omega
      omega
    · have := claim2 n p hp nc hk (m := g) (by omega) (by omega)
      omega
include hp nc in
/-- the pair round it -/
theorem round_of {k b : Nat} (hk : k < n) (B : IsB n p k b) : 0 < ht (prow n p) (sg n p k) ∧ ∃ q, q < sg n p k ∧ (prow n p)[q]? = some true ∧ ht (prow n p) q = ht (prow n p) (sg n p k) - 1 ∧ (∀ j, q < j → j < sg n p k → ht (prow n p) (sg n p k) - 1 < ht (prow n p) j) ∧
    q < low n p (b + 1) + 1 ∧ low n p (b + 1) + 1 ≤ (prow n p).length ∧ ht (prow n p) (low n p (b + 1) + 1) = ht (prow n p) q ∧ (∀ j, q < j → j < low n p (b + 1) + 1 → ht (prow n p) q < ht (prow n p) j) := by
  obtain ⟨h1, h2, h3, h4, h5⟩ := pair_of hp nc hk
  have hz : ht (prow n p) (low n p (k + 1) + 1) = dg' n p (k + 1) := prow_ht0 n p hp (by omega)
  have pos : 1 ≤ dg' n p (k + 1) := dg_pos n p hp (by omega)
  have hl := prow_len n p hp
  have hall := low_all n p hp
  have lb := low_mono n p (a := k + 1 + 1) (b := b + 1) (by have := B.lt; omega)
  have lk := low_succ n p (k + 1)
  have lb2 := low_mono n p (a := b + 1) (b := n + 1) (by have := B.le; omega)
  refine ⟨by omega, ?_⟩
  obtain ⟨q, q1, q2, q3⟩ := met (bs := prow n p) (v := ht (prow n p) (sg n p k) - 1) (sg n p k) (by omega) (by rw [ht_zero]; omega) (by omega)
  have hb : ht (prow n p) (low n p (b + 1) + 1) = dg' n p (b + 1) := prow_ht0 n p hp (by have := B.le; omega)
  have c4 := claim4 n p hp nc B
  refine ⟨q, q1, ?_, q2, fun j a c => q3 j a (by omega), by omega, by omega, by omega, ?_⟩
  · rcases ht_step (bs := prow n p) (i := q) (by omega) with ⟨s, _⟩ | ⟨_, s⟩
    · exact s
    · have := q3 (q + 1) (by omega) (by omega)
      omega
  · intro j j1 j2
    by_cases a : j ≤ sg n p k
    · have := q3 j j1 a
      omega
    · by_cases c : j < low n p (k + 1) + 1
      · have := h5 j (by omega) c
        omega
      · obtain ⟨g, t, hg, htt, ej, hj⟩ := ht_at (n := n) (p := p) (i := j) (by omega) (by omega)
        have g1 : k + 1 ≤ g := low_lt_group (n := n) (p := p) (by omega)
        have g2 : g < b + 1 := low_ge_group (n := n) (p := p) (t := t) (by omega)
        have := claim3 n p hp nc B (m := g) g1 (by omega)
        rw [hj]
        omega
end
/-! ### what is behind a knot -/
theorem isB_unique {n : Nat} {p : Nat → Nat} {k b c : Nat} (B : IsB n p k b) (C : IsB n p k c) : b = c := by
  have b1 := B.lt
  have b2 := B.le
  have c1 := C.lt
  have c2 := C.le
  rcases Nat.lt_trichotomy b c with q | q | q
  · have h1 := B.out (by omega)
    have h2 := C.inn b b1 q
    omega
  · exact q
  · have h1 := C.out (by omega)
    have h2 := B.inn c c1 q
    omega
theorem isB_ex {n : Nat} {p : Nat → Nat} {k : Nat} (hk : k < n) : ∃ b, IsB n p k b := by
  have go : ∀ m j, m = n - j → k < j → j ≤ n → (∀ i, k < i → i < j → k < p i) → ∃ b, IsB n p k b := by
    intro m
    induction m with
    | zero => exact fun j e h1 h2 h3 => ⟨j, h1, h2, h3, fun h => by omega⟩
    | succ m ih =>
      intro j e h1 h2 h3
      by_cases q : p j ≤ k
      · exact ⟨j, h1, h2, h3, fun _ => q⟩
      · refine ih (j + 1) (by omega) (by omega) (by omega) fun i a c => ?_
        by_cases e : i = j
        · subst e
          omega
        · exact h3 i a (by omega)
  exact go (n - (k + 1)) (k + 1) rfl (by omega) (by omega) fun i a c => by omega
noncomputable def bh (n : Nat) (p : Nat → Nat) (k : Nat) : Nat := if h : k < n then (isB_ex (p := p) h).choose else 0
theorem bh_is {n : Nat} {p : Nat → Nat} {k : Nat} (hk : k < n) : IsB n p k (bh n p k) := by
  unfold bh
  rw [dif_pos hk]
  exact (isB_ex (p := p) hk).choose_spec
/-! ### how many are beneath, from the last one on -/
/-- what the children of k from the i-th knot on bring in -/
def bsum (n : Nat) (p : Nat → Nat) (f : Nat → Int) (k : Nat) (i : Nat) : Int := ((List.range' i (n - i)).map fun j => if p j = k + 1 then f j else 0).sum
theorem bsum_end (n : Nat) (p : Nat → Nat) (f : Nat → Int) (k : Nat) : bsum n p f k n = 0 := by simp [bsum]
theorem bsum_step {n : Nat} {p : Nat → Nat} {f : Nat → Int} {k i : Nat} (h : i < n) : bsum n p f k i = (if p i = k + 1 then f i else 0) + bsum n p f k (i + 1) := by
  unfold bsum
  rw [show n - i = (n - (i + 1)) + 1 by omega, List.range'_succ]
  simp
theorem bsum_skip {n : Nat} {p : Nat → Nat} {f : Nat → Int} {k : Nat} : ∀ {m i j : Nat}, j = i + m → j ≤ n → (∀ x, i ≤ x → x < j → p x ≠ k + 1) → bsum n p f k i = bsum n p f k j
  | 0, i, j, e, _, _ => by rw [e]; rfl
  | m + 1, i, j, e, h, hx => by
    rw [bsum_step (by omega), if_neg (hx i (Nat.le_refl _) (by omega)), bsum_skip (m := m) (i := i + 1) (j := j) (by omega) h fun x a c => hx x (by omega) c]
    omega
section
variable {n : Nat} {p : Nat → Nat} (hp : ∀ k, k < n → p k ≤ k) (nc : ∀ k j, k < n → j < k → p k ≤ j → p k ≤ p j)
include hp nc in
theorem bsum_all {k : Nat} (hk : k < n) : bsum n p (fun j => (bh n p j : Int) - (j : Int)) k (k + 1) = (bh n p k : Int) - (k : Int) - 1 := by
  have B := bh_is (p := p) hk
  generalize bh n p k = b at B
  have key : ∀ m i, m = b - i → k < i → i ≤ b → (i = b ∨ p i = k + 1) → bsum n p (fun j => (bh n p j : Int) - (j : Int)) k i = (b : Int) - (i : Int) := by
    intro m
    induction m using Nat.strongRecOn with
    | _ m ih =>
      intro i e h1 h2 h3
      have ble := B.le
      by_cases q : i = b
      · subst q
        rw [bsum_skip (m := n - i) (i := i) (j := n) (by omega) (Nat.le_refl _) fun x a c => ?_, bsum_end]
        · omega
        · intro hx
          have ho := B.out (by omega)
          by_cases q : x = i
          · subst q
            omega
          · have := nc x i (by omega) (by omega) (by omega)
            omega
      · have hpi : p i = k + 1 := by
          rcases h3 with h3 | h3
          · exact absurd h3 q
          · exact h3
        have C := bh_is (p := p) (show i < n by omega)
        rw [bsum_step (by omega), if_pos hpi]
        generalize bh n p i = c at C
        have c1 := C.lt
        have c2 := C.le
        have cb : c ≤ b := by
          by_cases z : c ≤ b
          · exact z
          · have h4 := C.inn b (by omega) (by omega)
            have h5 := B.out (by omega)
            omega
        have h6 : c = b ∨ p c = k + 1 := by
          by_cases z : c = b
          · exact .inl z
          · right
            have h7 := B.inn c (by omega) (by omega)
            have h8 := C.out (by omega)
            have h9 := nc c i (by omega) (by omega) h8
            omega
        rw [bsum_skip (m := c - (i + 1)) (i := i + 1) (j := c) (by omega) c2 fun x a d => by have := C.inn x (by omega) d; omega, ih (b - c) (by omega) c rfl (by omega) cb h6]
        omega
  have b1 := B.lt
  have h1 : k + 1 = b ∨ p (k + 1) = k + 1 := by
    by_cases z : k + 1 = b
    · exact .inl z
    · right
      have h2 := B.inn (k + 1) (by omega) (by omega)
      have h3 := hp (k + 1) (by have := B.le; omega)
      omega
  rw [key (b - (k + 1)) (k + 1) rfl (by omega) (by omega) h1]
  omega
end
end TW
/-! M5: counts by blocks and words. Plain Lean. -/
namespace TW
def chunk (bs : List Bool) (j : Nat) : List Bool := (bs.drop (32 * j)).take 32
def nw (bs : List Bool) : Nat := (bs.length + 31) / 32
def nb (bs : List Bool) : Nat := (nw bs + 7) / 8
/-- a word with 1 where the bits are 0 -/
def lk (bs : List Bool) (j : Nat) : List Bool := (chunk bs j).map not ++ List.replicate (32 - (chunk bs j).length) true
theorem rk_le (bs : List Bool) (i : Nat) : rk bs i ≤ i := by
  unfold rk
  exact Nat.le_trans List.count_le_length (by simp; omega)
theorem rk_add (bs : List Bool) (i r : Nat) : rk bs (i + r) = rk bs i + ((bs.drop i).take r).count true := by
  unfold rk
  rw [List.take_add, List.count_append]
theorem rk_mono (bs : List Bool) {a b : Nat} (h : a ≤ b) : rk bs a ≤ rk bs b := by
  have e := rk_add bs a (b - a)
  rw [show a + (b - a) = b by omega] at e
  omega
theorem rk_lip (bs : List Bool) {a b : Nat} (h : a ≤ b) : rk bs b ≤ rk bs a + (b - a) := by
  have e := rk_add bs a (b - a)
  rw [show a + (b - a) = b by omega] at e
  have : ((bs.drop a).take (b - a)).count true ≤ b - a := Nat.le_trans List.count_le_length (by simp; omega)
  omega
theorem rk_chunk (bs : List Bool) (j r : Nat) (h : r ≤ 32) : rk bs (32 * j + r) = rk bs (32 * j) + ((chunk bs j).take r).count true := by
  rw [rk_add]
  unfold chunk
  rw [List.take_take, Nat.min_eq_left h]
theorem rk_chunk32 (bs : List Bool) (j : Nat) : rk bs (32 * (j + 1)) = rk bs (32 * j) + (chunk bs j).count true := by
  rw [show 32 * (j + 1) = 32 * j + 32 by omega, rk_chunk bs j 32 (Nat.le_refl _), List.take_of_length_le (by simp [chunk]; omega)]
theorem chunk_le (bs : List Bool) (j : Nat) : (chunk bs j).length ≤ 32 := by simp [chunk]; omega
theorem chunk_full {bs : List Bool} {j : Nat} (h : 32 * (j + 1) ≤ bs.length) : (chunk bs j).length = 32 := by simp [chunk]; omega
/-- these words from the a-th on, m of them -/
def cls (bs : List Bool) (a m : Nat) : List (List Bool) := (((List.range (nw bs)).drop a).take m).map (chunk bs)
theorem cls_sum (bs : List Bool) (a : Nat) : ∀ m, ((cls bs a m).map fun l => l.count true).sum + rk bs (32 * a) = rk bs (32 * (a + m))
  | 0 => by simp [cls]
  | m + 1 => by
    have ih := cls_sum bs a m
    by_cases h : a + m < nw bs
    · have e : cls bs a (m + 1) = cls bs a m ++ [chunk bs (a + m)] := by
        unfold cls
        rw [List.take_add_one, List.getElem?_drop, List.getElem?_range h, List.map_append]
        rfl
      rw [e, List.map_append, List.sum_append]
      have r := rk_chunk32 bs (a + m)
      rw [show a + (m + 1) = a + m + 1 by omega, r]
      simp only [List.map_cons, List.map_nil, List.sum_cons, List.sum_nil]
      omega
    · have e : cls bs a (m + 1) = cls bs a m := by
        unfold cls
        rw [List.take_of_length_le (by simp; omega), List.take_of_length_le (by simp; omega)]
      rw [e, ih, rk_all bs (i := 32 * (a + m)) (by unfold nw at h; omega), rk_all bs (i := 32 * (a + (m + 1))) (by unfold nw at h; omega)]
theorem count_not (l : List Bool) : (l.map not).count true + l.count true = l.length := by
  induction l with
  | nil => rfl
  | cons b r ih =>
    cases b <;> simp <;> omega
theorem lk_len (bs : List Bool) (j : Nat) : (lk bs j).length = 32 := by
  have := chunk_le bs j
  simp [lk]
  omega
theorem lk_val (bs : List Bool) (j : Nat) : wordOf (lk bs j) + wordOf (chunk bs j) = 4294967295 := by
  have h := chunk_le bs j
  have e : lk bs j = ((chunk bs j) ++ List.replicate (32 - (chunk bs j).length) false).map not := by
    unfold lk
    rw [List.map_append, List.map_replicate]
    rfl
  rw [e, wordOf_not, wordOf_pad, List.length_append, List.length_replicate, show (chunk bs j).length + (32 - (chunk bs j).length) = 32 by omega]
  have h2 := wordOf_lt (chunk bs j)
  have h3 : 2 ^ (chunk bs j).length ≤ 2 ^ 32 := Nat.pow_le_pow_right (by decide) h
  omega
theorem lk_full {bs : List Bool} {j : Nat} (h : 32 * (j + 1) ≤ bs.length) : (lk bs j).count true + rk bs (32 * (j + 1)) = 32 + rk bs (32 * j) := by
  have e := chunk_full h
  have r := rk_chunk32 bs j
  have c := count_not (chunk bs j)
  unfold lk
  rw [e, Nat.sub_self, List.replicate_zero, List.append_nil]
  omega
theorem lk_at {bs : List Bool} {q : Nat} (h : bs[q]? = some false) : (lk bs (q / 32))[q % 32]? = some true ∧ ((lk bs (q / 32)).take (q % 32)).count true + rk bs q + 32 * (q / 32) = q + rk bs (32 * (q / 32)) := by
  have ql : q < bs.length := (List.getElem?_eq_some_iff.mp h).1
  have hc : (chunk bs (q / 32))[q % 32]? = some false := by
    unfold chunk
    rw [List.getElem?_take_of_lt (Nat.mod_lt _ (by decide)), List.getElem?_drop, ← h]
    congr 1
    omega
  have lc : q % 32 < (chunk bs (q / 32)).length := (List.getElem?_eq_some_iff.mp hc).1
  have r := rk_chunk bs (q / 32) (q % 32) (by omega)
  rw [show 32 * (q / 32) + q % 32 = q by omega] at r
  unfold lk
  refine ⟨?_, ?_⟩
  · rw [List.getElem?_append_left (by simpa using lc), List.getElem?_map, hc]
    rfl
  · rw [List.take_append_of_le_length (by simp; omega), ← List.map_take]
    have c := count_not ((chunk bs (q / 32)).take (q % 32))
    rw [List.length_take] at c
    omega
theorem count_gt {l : List Bool} {q : Nat} (h : l[q]? = some true) : (l.take q).count true < l.count true := by
  have h2 : l.count true = (l.take q).count true + (l.drop q).count true := by rw [← List.count_append, List.take_append_drop]
  have h3 : 0 < (l.drop q).count true := by
    rw [List.count_pos_iff]
    have : (l.drop q)[0]? = some true := by rw [List.getElem?_drop]; simpa using h
    exact List.mem_of_getElem? this
  omega
/-- the noughts ahead -/
theorem z_mono (bs : List Bool) {a b : Nat} (h : a ≤ b) : (a : Int) - (rk bs a : Int) ≤ (b : Int) - (rk bs b : Int) := by
  have := rk_lip bs h
  omega
theorem z_lt {bs : List Bool} {q b : Nat} (hq : bs[q]? = some false) (h : q < b) : (q : Int) - (rk bs q : Int) < (b : Int) - (rk bs b : Int) := by
  have e := rk_succ hq
  have := z_mono bs (a := q + 1) (b := b) (by omega)
  rw [e] at this
  simp at this
  omega
end TW
/-! M6: the row of a wood by its groups. Plain Lean. -/
namespace TW
/-- a row of groups -/
def gRow : List Nat → List Bool
  | [] => []
  | c :: r => List.replicate c true ++ false :: gRow r
theorem gRow_append : ∀ l m : List Nat, gRow (l ++ m) = gRow l ++ gRow m
  | [], m => rfl
  | c :: r, m => by simp [gRow, gRow_append r m]
theorem gRow_flat : ∀ gs : List Nat, gRow gs = (gs.map fun c => List.replicate c true ++ [false]).flatten
  | [] => rfl
  | c :: r => by simp [gRow, gRow_flat r]
theorem gRow_row (n : Nat) (p : Nat → Nat) : ∀ m, gRow ((List.range m).map (cg n p)) = rowTo n p m
  | 0 => rfl
  | m + 1 => by
    rw [List.range_succ, List.map_append, gRow_append, gRow_row n p m]
    rfl
theorem set_range {α : Type} (n k : Nat) (f : Nat → α) (v : α) (g : Nat → α) (hk : g k = v) (hg : ∀ j, j ≠ k → g j = f j) : ((List.range n).map f).set k v = (List.range n).map g := by
  apply List.ext_getElem?
  intro i
  rw [List.getElem?_set]
  by_cases e : k = i
  · subst e
    rw [if_pos rfl, List.getElem?_map]
    by_cases c : k < n
    · rw [List.getElem?_range c, if_pos (by simpa using c)]
      simp [hk]
    · rw [if_neg (by simpa using c), List.getElem?_eq_none (by simpa using c)]
      rfl
  · rw [if_neg e, List.getElem?_map, List.getElem?_map]
    by_cases c : i < n
    · rw [List.getElem?_range c]
      simp [hg i (fun z => e z.symm)]
    · rw [List.getElem?_eq_none (by simpa using c)]
      rfl
theorem sum_cg (n : Nat) (p : Nat → Nat) : ∀ m, ((List.range m).map (cg n p)).sum = lg n p m
  | 0 => by simp [lg_zero]
  | m + 1 => by
    rw [List.range_succ, List.map_append, List.sum_append, sum_cg n p m, lg_succ]
    simp
end TW
/-! M7: the law's own lists. Plain Lean. -/
namespace TW
/-- the knots of group g -/
def chl (n : Nat) (p : Nat → Nat) (g : Nat) : List Nat := (List.range n).filter fun j => p j == g
theorem chl_succ (n : Nat) (p : Nat → Nat) (g : Nat) : chl (n + 1) p g = chl n p g ++ if p n = g then [n] else [] := by
  unfold chl
  rw [List.range_succ, List.filter_append]
  congr 1
  by_cases h : p n = g
  · simp [h]
  · simp [h]
theorem chl_len (n : Nat) (p : Nat → Nat) (g : Nat) : (chl n p g).length = cg n p g := by
  unfold chl cg cn
  rw [List.countP_eq_length_filter]
theorem chl_pre (n k : Nat) (p : Nat → Nat) (g : Nat) (h : k ≤ n) : ∃ r, chl n p g = chl k p g ++ r := by
  induction n with
  | zero =>
    have : k = 0 := by omega
    subst this
    exact ⟨[], by simp⟩
  | succ n ih =>
    by_cases e : k = n + 1
    · subst e
      exact ⟨[], by simp⟩
    · obtain ⟨r, hr⟩ := ih (by omega)
      rw [chl_succ, hr]
      exact ⟨r ++ _, by rw [List.append_assoc]⟩
theorem chl_at {n : Nat} {p : Nat → Nat} {k : Nat} (h : k < n) : (chl n p (p k))[ct p k]? = some k := by
  obtain ⟨r, hr⟩ := chl_pre n (k + 1) p (p k) (by omega)
  rw [hr, chl_succ, if_pos rfl]
  have e : (chl k p (p k)).length = ct p k := chl_len k p (p k)
  rw [List.append_assoc, ← e, List.getElem?_append_right (Nat.le_refl _), Nat.sub_self]
  rfl
theorem chl_ahead {n : Nat} {p : Nat → Nat} {k m j : Nat} (h : k < n) (hm : m < ct p k) (hj : (chl n p (p k))[m]? = some j) : j ≠ k := by
  obtain ⟨r, hr⟩ := chl_pre n k p (p k) (by omega)
  have e : (chl k p (p k)).length = ct p k := chl_len k p (p k)
  rw [hr, List.getElem?_append_left (by omega)] at hj
  have hm := List.mem_of_getElem? hj
  unfold chl at hm
  rw [List.mem_filter, List.mem_range] at hm
  omega
/-- what is behind a knot, from it on -/
noncomputable def fb (n : Nat) (p : Nat → Nat) (j : Nat) : Int := (bh n p j : Int) - (j : Int)
theorem bsum_zero {n : Nat} {p : Nat → Nat} (hp : ∀ k, k < n → p k ≤ k) (nc : ∀ k j, k < n → j < k → p k ≤ j → p k ≤ p j) {k i : Nat} (hk : k < n) (hi : i ≤ k + 1) : bsum n p (fb n p) k i = fb n p k - 1 := by
  rw [bsum_skip (m := k + 1 - i) (i := i) (j := k + 1) (by omega) (by omega) fun x a b => by have := hp x (by omega); omega]
  exact bsum_all hp nc hk
theorem Wd.len {es w : List Int} (h : Wd es w) : w.length ≤ es.length := by
  induction h with
  | nil => exact Nat.le_refl _
  | snoc h ha he ih => simp; omega
end TW
/-! Tx: the text by places, the facts asked of the top (printed by gen_tx.py). -/
namespace TW
open PySem PySem.Spec PyProof.Rows L2
def top (i : Nat) : Stmt := PySem.Challenge.pw_tightwood_k53_stretches.main.body.getD i (.Pass ⟨0, 0, 0, 0⟩)
abbrev sOnesIn : Stmt := top 10
abbrev sNthOne : Stmt := top 11
abbrev sIsAmid : Stmt := top 14
abbrev sWordsOf : Stmt := top 15
abbrev sB_Init : Stmt := inClass (top 16) 0
abbrev sB_Size : Stmt := inClass (top 16) 1
abbrev sB_Words : Stmt := inClass (top 16) 3
abbrev sB_Need : Stmt := inClass (top 16) 4
abbrev sB_At : Stmt := inClass (top 16) 5
abbrev sB_Bit : Stmt := inClass (top 16) 6
abbrev sIsWholeC : Stmt := top 20
abbrev sNeedBit : Stmt := top 22
abbrev sC_Init : Stmt := inClass (top 23) 0
abbrev sC_OnesAhead : Stmt := inClass (top 23) 2
abbrev sC_Ahead : Stmt := inClass (top 23) 3
abbrev sC_Like : Stmt := inClass (top 23) 4
abbrev sC_LikeAhead : Stmt := inClass (top 23) 5
abbrev sC_AllLike : Stmt := inClass (top 23) 6
abbrev sC_BlockOf : Stmt := inClass (top 23) 7
abbrev sC_PlaceOf : Stmt := inClass (top 23) 8
abbrev sIsWholeP : Stmt := top 28
abbrev sAskRow : Stmt := top 30
abbrev sTableOf : Stmt := top 31
abbrev sP_Init : Stmt := inClass (top 32) 0
abbrev sP_Size : Stmt := inClass (top 32) 1
abbrev sP_Height : Stmt := inClass (top 32) 6
abbrev sP_Step : Stmt := inClass (top 32) 7
abbrev sP_FirstIn : Stmt := inClass (top 32) 8
abbrev sP_LastIn : Stmt := inClass (top 32) 9
abbrev sP_EndsOf : Stmt := inClass (top 32) 10
abbrev sP_NextAt : Stmt := inClass (top 32) 11
abbrev sP_LastAt : Stmt := inClass (top 32) 12
abbrev sP_AskHeight : Stmt := inClass (top 32) 13
abbrev sP_OpeningOf : Stmt := inClass (top 32) 15
abbrev sP_Partner : Stmt := inClass (top 32) 16
abbrev sP_Round : Stmt := inClass (top 32) 17
abbrev sLookAt : Stmt := top 35
abbrev sIsFromNought : Stmt := top 38
abbrev sGroupsRow : Stmt := top 39
abbrev sCountedRow : Stmt := top 41
abbrev sW_Init : Stmt := inClass (top 42) 0
abbrev sW_Need : Stmt := inClass (top 42) 1
abbrev sW_Group : Stmt := inClass (top 42) 2
abbrev sW_SignOf : Stmt := inClass (top 42) 3
abbrev sW_Over : Stmt := inClass (top 42) 4
abbrev sW_Row : Stmt := inClass (top 42) 7
abbrev sW_ChildPlace : Stmt := inClass (top 42) 18
abbrev sW_Stretch : Stmt := inClass (top 42) 19
abbrev sW_Behind : Stmt := inClass (top 42) 20
abbrev sW_LiesBeneath : Stmt := inClass (top 42) 21
abbrev sLawCellAt : Stmt := top 44
abbrev sLawTwice : Stmt := top 45
abbrev sLawGrown : Stmt := top 46
abbrev sLawDrawn : Stmt := top 47
abbrev sLawRepeated : Stmt := top 48
abbrev sLawWood : Stmt := top 49
abbrev sLawPlain : Stmt := top 50
abbrev sLawIs : Stmt := top 51
abbrev sLawSome : Stmt := top 52
abbrev sLawBegins : Stmt := top 53
abbrev sLawRight : Stmt := top 54
abbrev sLaw : Stmt := top 55
/-- what the walk asks of the top -/
structure Txt (K : PySem.W.Frag) (mg : Str → Option Value) : Prop where
  g_ones_in : mg "ones_in" = some (.ref (He.ga K "ones_in"))
  g_nth_one : mg "nth_one" = some (.ref (He.ga K "nth_one"))
  g_is_amid : mg "is_amid" = some (.ref (He.ga K "is_amid"))
  g_words_of : mg "words_of" = some (.ref (He.ga K "words_of"))
  g_need_bit : mg "need_bit" = some (.ref (He.ga K "need_bit"))
  g_ask_row : mg "ask_row" = some (.ref (He.ga K "ask_row"))
  g_table_of : mg "table_of" = some (.ref (He.ga K "table_of"))
  g_look_at : mg "look_at" = some (.ref (He.ga K "look_at"))
  g_is_from_nought : mg "is_from_nought" = some (.ref (He.ga K "is_from_nought"))
  g_groups_row : mg "groups_row" = some (.ref (He.ga K "groups_row"))
  g_counted_row : mg "counted_row" = some (.ref (He.ga K "counted_row"))
  g_law_cell_at : mg "_law_cell_at" = some (.ref (He.ga K "_law_cell_at"))
  g_law_twice : mg "_law_twice" = some (.ref (He.ga K "_law_twice"))
  g_law_grown : mg "_law_grown" = some (.ref (He.ga K "_law_grown"))
  g_law_drawn : mg "_law_drawn" = some (.ref (He.ga K "_law_drawn"))
  g_law_repeated : mg "_law_repeated" = some (.ref (He.ga K "_law_repeated"))
  g_law_wood : mg "_law_wood" = some (.ref (He.ga K "_law_wood"))
  g_law_plain : mg "_law_plain" = some (.ref (He.ga K "_law_plain"))
  g_law_is : mg "_law_is" = some (.ref (He.ga K "_law_is"))
  g_law_some : mg "_law_some" = some (.ref (He.ga K "_law_some"))
  g_law_begins : mg "_law_begins" = some (.ref (He.ga K "_law_begins"))
  g_law_right : mg "_law_right" = some (.ref (He.ga K "_law_right"))
  g_is_whole_counts : mg "is_whole_counts" = some (.ref (He.ga K "is_whole_counts"))
  g_is_whole_pairs : mg "is_whole_pairs" = some (.ref (He.ga K "is_whole_pairs"))
  g_law : mg "law" = some (.ref (He.ga K "law"))
  g_Bits : mg "Bits" = some (.ref (He.ga K "Bits"))
  g_Counts : mg "Counts" = some (.ref (He.ga K "Counts"))
  g_Pairs : mg "Pairs" = some (.ref (He.ga K "Pairs"))
  g_Counted : mg "Counted" = some (.ref (He.ga K "Counted"))
  z_isinstance : mg "isinstance" = none
  z_int : mg "int" = none
  z_bool : mg "bool" = none
  z_str : mg "str" = none
  z_list : mg "list" = none
  z_tuple : mg "tuple" = none
  z_len : mg "len" = none
  z_sum : mg "sum" = none
  z_all : mg "all" = none
  z_range : mg "range" = none
  z_enumerate : mg "enumerate" = none
  z_min : mg "min" = none
  z_max : mg "max" = none
  z_reversed : mg "reversed" = none
  z_abs : mg "abs" = none
  i_WORD_words : ∃ t, mg "WORD_words" = some (.int 32 t)
  i_MOST_bits : ∃ t, mg "MOST_bits" = some (.int 20000 t)
  i_BLOCK : ∃ t, mg "BLOCK" = some (.int 8 t)
  i_FULL : ∃ t, mg "FULL" = some (.int 4294967295 t)
  i_STRETCH : ∃ t, mg "STRETCH" = some (.int 256 t)
  i_MOST_pairs : ∃ t, mg "MOST_pairs" = some (.int 8192 t)
  i_WORD_pairs : ∃ t, mg "WORD_pairs" = some (.int 32 t)
  i_MOST_woods : ∃ t, mg "MOST_woods" = some (.int 4000 t)
  c_Bits : Cls K (He.ga K "Bits")
  k_Bits : Mk K (He.ga K "Bits") (He.ma K (He.ga K "Bits") "__init__")
  n_Bits_kept : NoAttr K (He.ga K "Bits") "kept"
  n_Bits_length : NoAttr K (He.ga K "Bits") "length"
  m_Bits_size : Meth K (He.ga K "Bits") "size" (He.ma K (He.ga K "Bits") "size")
  m_Bits_words : Meth K (He.ga K "Bits") "words" (He.ma K (He.ga K "Bits") "words")
  m_Bits_need : Meth K (He.ga K "Bits") "need" (He.ma K (He.ga K "Bits") "need")
  m_Bits_at : Meth K (He.ga K "Bits") "at" (He.ma K (He.ga K "Bits") "at")
  m_Bits_bit : Meth K (He.ga K "Bits") "bit" (He.ma K (He.ga K "Bits") "bit")
  c_Counts : Cls K (He.ga K "Counts")
  k_Counts : Mk K (He.ga K "Counts") (He.ma K (He.ga K "Counts") "__init__")
  n_Counts_kept : NoAttr K (He.ga K "Counts") "kept"
  n_Counts_all_many : NoAttr K (He.ga K "Counts") "all_many"
  n_Counts_heads : NoAttr K (He.ga K "Counts") "heads"
  m_Counts_ones_ahead : Meth K (He.ga K "Counts") "ones_ahead" (He.ma K (He.ga K "Counts") "ones_ahead")
  m_Counts_ahead : Meth K (He.ga K "Counts") "ahead" (He.ma K (He.ga K "Counts") "ahead")
  m_Counts_like : Meth K (He.ga K "Counts") "like" (He.ma K (He.ga K "Counts") "like")
  m_Counts_like_ahead : Meth K (He.ga K "Counts") "like_ahead" (He.ma K (He.ga K "Counts") "like_ahead")
  m_Counts_all_like : Meth K (He.ga K "Counts") "all_like" (He.ma K (He.ga K "Counts") "all_like")
  m_Counts_block_of : Meth K (He.ga K "Counts") "block_of" (He.ma K (He.ga K "Counts") "block_of")
  m_Counts_place_of : Meth K (He.ga K "Counts") "place_of" (He.ma K (He.ga K "Counts") "place_of")
  c_Pairs : Cls K (He.ga K "Pairs")
  k_Pairs : Mk K (He.ga K "Pairs") (He.ma K (He.ga K "Pairs") "__init__")
  n_Pairs_bits : NoAttr K (He.ga K "Pairs") "bits"
  n_Pairs_kept : NoAttr K (He.ga K "Pairs") "kept"
  n_Pairs_counts : NoAttr K (He.ga K "Pairs") "counts"
  n_Pairs_laid : NoAttr K (He.ga K "Pairs") "laid"
  m_Pairs_size : Meth K (He.ga K "Pairs") "size" (He.ma K (He.ga K "Pairs") "size")
  m_Pairs_height : Meth K (He.ga K "Pairs") "height" (He.ma K (He.ga K "Pairs") "height")
  m_Pairs_step : Meth K (He.ga K "Pairs") "step" (He.ma K (He.ga K "Pairs") "step")
  m_Pairs_first_in : Meth K (He.ga K "Pairs") "first_in" (He.ma K (He.ga K "Pairs") "first_in")
  m_Pairs_last_in : Meth K (He.ga K "Pairs") "last_in" (He.ma K (He.ga K "Pairs") "last_in")
  m_Pairs_ends_of : Meth K (He.ga K "Pairs") "ends_of" (He.ma K (He.ga K "Pairs") "ends_of")
  m_Pairs_next_at : Meth K (He.ga K "Pairs") "next_at" (He.ma K (He.ga K "Pairs") "next_at")
  m_Pairs_last_at : Meth K (He.ga K "Pairs") "last_at" (He.ma K (He.ga K "Pairs") "last_at")
  m_Pairs_ask_height : Meth K (He.ga K "Pairs") "ask_height" (He.ma K (He.ga K "Pairs") "ask_height")
  m_Pairs_opening_of : Meth K (He.ga K "Pairs") "opening_of" (He.ma K (He.ga K "Pairs") "opening_of")
  m_Pairs_partner : Meth K (He.ga K "Pairs") "partner" (He.ma K (He.ga K "Pairs") "partner")
  m_Pairs_round : Meth K (He.ga K "Pairs") "round" (He.ma K (He.ga K "Pairs") "round")
  c_Counted : Cls K (He.ga K "Counted")
  k_Counted : Mk K (He.ga K "Counted") (He.ma K (He.ga K "Counted") "__init__")
  n_Counted_signs : NoAttr K (He.ga K "Counted") "signs"
  n_Counted_knots : NoAttr K (He.ga K "Counted") "knots"
  n_Counted_counts : NoAttr K (He.ga K "Counted") "counts"
  n_Counted_pairs : NoAttr K (He.ga K "Counted") "pairs"
  m_Counted_need : Meth K (He.ga K "Counted") "need" (He.ma K (He.ga K "Counted") "need")
  m_Counted_group : Meth K (He.ga K "Counted") "group" (He.ma K (He.ga K "Counted") "group")
  m_Counted_sign_of : Meth K (He.ga K "Counted") "sign_of" (He.ma K (He.ga K "Counted") "sign_of")
  m_Counted_over : Meth K (He.ga K "Counted") "over" (He.ma K (He.ga K "Counted") "over")
  m_Counted_row : Meth K (He.ga K "Counted") "row" (He.ma K (He.ga K "Counted") "row")
  m_Counted_child_place : Meth K (He.ga K "Counted") "child_place" (He.ma K (He.ga K "Counted") "child_place")
  m_Counted_stretch : Meth K (He.ga K "Counted") "stretch" (He.ma K (He.ga K "Counted") "stretch")
  m_Counted_behind : Meth K (He.ga K "Counted") "behind" (He.ma K (He.ga K "Counted") "behind")
  m_Counted_lies_beneath : Meth K (He.ga K "Counted") "lies_beneath" (He.ma K (He.ga K "Counted") "lies_beneath")
  f_OnesIn : ∃ fd, FunD K "ones_in" "ones_in" (defArgs sOnesIn) (defBody sOnesIn) (defScope sOnesIn) [] [] (He.fAd K ("ones_in", none)) fd
  f_NthOne : ∃ fd, FunD K "nth_one" "nth_one" (defArgs sNthOne) (defBody sNthOne) (defScope sNthOne) [] [] (He.fAd K ("nth_one", none)) fd
  f_IsAmid : ∃ fd, FunD K "is_amid" "is_amid" (defArgs sIsAmid) (defBody sIsAmid) (defScope sIsAmid) [] [] (He.fAd K ("is_amid", none)) fd
  f_WordsOf : ∃ fd, FunD K "words_of" "words_of" (defArgs sWordsOf) (defBody sWordsOf) (defScope sWordsOf) [] [] (He.fAd K ("words_of", none)) fd
  f_B_Init : ∃ fd, FunD K "__init__" "Bits.__init__" (defArgs sB_Init) (defBody sB_Init) (defScope sB_Init) [] [] (He.fAd K ("Bits", some "__init__")) fd
  f_B_Size : ∃ fd, FunD K "size" "Bits.size" (defArgs sB_Size) (defBody sB_Size) (defScope sB_Size) [] [] (He.fAd K ("Bits", some "size")) fd
  f_B_Words : ∃ fd, FunD K "words" "Bits.words" (defArgs sB_Words) (defBody sB_Words) (defScope sB_Words) [] [] (He.fAd K ("Bits", some "words")) fd
  f_B_Need : ∃ fd, FunD K "need" "Bits.need" (defArgs sB_Need) (defBody sB_Need) (defScope sB_Need) [] [] (He.fAd K ("Bits", some "need")) fd
  f_B_At : ∃ fd, FunD K "at" "Bits.at" (defArgs sB_At) (defBody sB_At) (defScope sB_At) [] [] (He.fAd K ("Bits", some "at")) fd
  f_B_Bit : ∃ fd, FunD K "bit" "Bits.bit" (defArgs sB_Bit) (defBody sB_Bit) (defScope sB_Bit) [] [] (He.fAd K ("Bits", some "bit")) fd
  f_IsWholeC : ∃ fd, FunD K "is_whole" "is_whole" (defArgs sIsWholeC) (defBody sIsWholeC) (defScope sIsWholeC) [] [] (He.fAd K ("is_whole_counts", none)) fd
  f_NeedBit : ∃ fd, FunD K "need_bit" "need_bit" (defArgs sNeedBit) (defBody sNeedBit) (defScope sNeedBit) [] [] (He.fAd K ("need_bit", none)) fd
  f_C_Init : ∃ fd, FunD K "__init__" "Counts.__init__" (defArgs sC_Init) (defBody sC_Init) (defScope sC_Init) [] [] (He.fAd K ("Counts", some "__init__")) fd
  f_C_OnesAhead : ∃ fd, FunD K "ones_ahead" "Counts.ones_ahead" (defArgs sC_OnesAhead) (defBody sC_OnesAhead) (defScope sC_OnesAhead) [] [] (He.fAd K ("Counts", some "ones_ahead")) fd
  f_C_Ahead : ∃ fd, FunD K "ahead" "Counts.ahead" (defArgs sC_Ahead) (defBody sC_Ahead) (defScope sC_Ahead) [] [] (He.fAd K ("Counts", some "ahead")) fd
  f_C_Like : ∃ fd, FunD K "like" "Counts.like" (defArgs sC_Like) (defBody sC_Like) (defScope sC_Like) [] [] (He.fAd K ("Counts", some "like")) fd
  f_C_LikeAhead : ∃ fd, FunD K "like_ahead" "Counts.like_ahead" (defArgs sC_LikeAhead) (defBody sC_LikeAhead) (defScope sC_LikeAhead) [] [] (He.fAd K ("Counts", some "like_ahead")) fd
  f_C_AllLike : ∃ fd, FunD K "all_like" "Counts.all_like" (defArgs sC_AllLike) (defBody sC_AllLike) (defScope sC_AllLike) [] [] (He.fAd K ("Counts", some "all_like")) fd
  f_C_BlockOf : ∃ fd, FunD K "block_of" "Counts.block_of" (defArgs sC_BlockOf) (defBody sC_BlockOf) (defScope sC_BlockOf) [] [] (He.fAd K ("Counts", some "block_of")) fd
  f_C_PlaceOf : ∃ fd, FunD K "place_of" "Counts.place_of" (defArgs sC_PlaceOf) (defBody sC_PlaceOf) (defScope sC_PlaceOf) [] [] (He.fAd K ("Counts", some "place_of")) fd
  f_IsWholeP : ∃ fd, FunD K "is_whole" "is_whole" (defArgs sIsWholeP) (defBody sIsWholeP) (defScope sIsWholeP) [] [] (He.fAd K ("is_whole_pairs", none)) fd
  f_AskRow : ∃ fd, FunD K "ask_row" "ask_row" (defArgs sAskRow) (defBody sAskRow) (defScope sAskRow) [] [] (He.fAd K ("ask_row", none)) fd
  f_TableOf : ∃ fd, FunD K "table_of" "table_of" (defArgs sTableOf) (defBody sTableOf) (defScope sTableOf) [] [] (He.fAd K ("table_of", none)) fd
  f_P_Init : ∃ fd, FunD K "__init__" "Pairs.__init__" (defArgs sP_Init) (defBody sP_Init) (defScope sP_Init) [] [] (He.fAd K ("Pairs", some "__init__")) fd
  f_P_Size : ∃ fd, FunD K "size" "Pairs.size" (defArgs sP_Size) (defBody sP_Size) (defScope sP_Size) [] [] (He.fAd K ("Pairs", some "size")) fd
  f_P_Height : ∃ fd, FunD K "height" "Pairs.height" (defArgs sP_Height) (defBody sP_Height) (defScope sP_Height) [] [] (He.fAd K ("Pairs", some "height")) fd
  f_P_Step : ∃ fd, FunD K "step" "Pairs.step" (defArgs sP_Step) (defBody sP_Step) (defScope sP_Step) [] [] (He.fAd K ("Pairs", some "step")) fd
  f_P_FirstIn : ∃ fd, FunD K "first_in" "Pairs.first_in" (defArgs sP_FirstIn) (defBody sP_FirstIn) (defScope sP_FirstIn) [] [] (He.fAd K ("Pairs", some "first_in")) fd
  f_P_LastIn : ∃ fd, FunD K "last_in" "Pairs.last_in" (defArgs sP_LastIn) (defBody sP_LastIn) (defScope sP_LastIn) [] [] (He.fAd K ("Pairs", some "last_in")) fd
  f_P_EndsOf : ∃ fd, FunD K "ends_of" "Pairs.ends_of" (defArgs sP_EndsOf) (defBody sP_EndsOf) (defScope sP_EndsOf) [] [] (He.fAd K ("Pairs", some "ends_of")) fd
  f_P_NextAt : ∃ fd, FunD K "next_at" "Pairs.next_at" (defArgs sP_NextAt) (defBody sP_NextAt) (defScope sP_NextAt) [] [] (He.fAd K ("Pairs", some "next_at")) fd
  f_P_LastAt : ∃ fd, FunD K "last_at" "Pairs.last_at" (defArgs sP_LastAt) (defBody sP_LastAt) (defScope sP_LastAt) [] [] (He.fAd K ("Pairs", some "last_at")) fd
  f_P_AskHeight : ∃ fd, FunD K "ask_height" "Pairs.ask_height" (defArgs sP_AskHeight) (defBody sP_AskHeight) (defScope sP_AskHeight) [] [] (He.fAd K ("Pairs", some "ask_height")) fd
  f_P_OpeningOf : ∃ fd, FunD K "opening_of" "Pairs.opening_of" (defArgs sP_OpeningOf) (defBody sP_OpeningOf) (defScope sP_OpeningOf) [] [] (He.fAd K ("Pairs", some "opening_of")) fd
  f_P_Partner : ∃ fd, FunD K "partner" "Pairs.partner" (defArgs sP_Partner) (defBody sP_Partner) (defScope sP_Partner) [] [] (He.fAd K ("Pairs", some "partner")) fd
  f_P_Round : ∃ fd, FunD K "round" "Pairs.round" (defArgs sP_Round) (defBody sP_Round) (defScope sP_Round) [] [] (He.fAd K ("Pairs", some "round")) fd
  f_LookAt : ∃ fd, FunD K "look_at" "look_at" (defArgs sLookAt) (defBody sLookAt) (defScope sLookAt) [] [] (He.fAd K ("look_at", none)) fd
  f_IsFromNought : ∃ fd, FunD K "is_from_nought" "is_from_nought" (defArgs sIsFromNought) (defBody sIsFromNought) (defScope sIsFromNought) [] [] (He.fAd K ("is_from_nought", none)) fd
  f_GroupsRow : ∃ fd, FunD K "groups_row" "groups_row" (defArgs sGroupsRow) (defBody sGroupsRow) (defScope sGroupsRow) [] [] (He.fAd K ("groups_row", none)) fd
  f_CountedRow : ∃ fd, FunD K "counted_row" "counted_row" (defArgs sCountedRow) (defBody sCountedRow) (defScope sCountedRow) [] [] (He.fAd K ("counted_row", none)) fd
  f_W_Init : ∃ fd, FunD K "__init__" "Counted.__init__" (defArgs sW_Init) (defBody sW_Init) (defScope sW_Init) [] [] (He.fAd K ("Counted", some "__init__")) fd
  f_W_Need : ∃ fd, FunD K "need" "Counted.need" (defArgs sW_Need) (defBody sW_Need) (defScope sW_Need) [] [] (He.fAd K ("Counted", some "need")) fd
  f_W_Group : ∃ fd, FunD K "group" "Counted.group" (defArgs sW_Group) (defBody sW_Group) (defScope sW_Group) [] [] (He.fAd K ("Counted", some "group")) fd
  f_W_SignOf : ∃ fd, FunD K "sign_of" "Counted.sign_of" (defArgs sW_SignOf) (defBody sW_SignOf) (defScope sW_SignOf) [] [] (He.fAd K ("Counted", some "sign_of")) fd
  f_W_Over : ∃ fd, FunD K "over" "Counted.over" (defArgs sW_Over) (defBody sW_Over) (defScope sW_Over) [] [] (He.fAd K ("Counted", some "over")) fd
  f_W_Row : ∃ fd, FunD K "row" "Counted.row" (defArgs sW_Row) (defBody sW_Row) (defScope sW_Row) [] [] (He.fAd K ("Counted", some "row")) fd
  f_W_ChildPlace : ∃ fd, FunD K "child_place" "Counted.child_place" (defArgs sW_ChildPlace) (defBody sW_ChildPlace) (defScope sW_ChildPlace) [] [] (He.fAd K ("Counted", some "child_place")) fd
  f_W_Stretch : ∃ fd, FunD K "stretch" "Counted.stretch" (defArgs sW_Stretch) (defBody sW_Stretch) (defScope sW_Stretch) [] [] (He.fAd K ("Counted", some "stretch")) fd
  f_W_Behind : ∃ fd, FunD K "behind" "Counted.behind" (defArgs sW_Behind) (defBody sW_Behind) (defScope sW_Behind) [] [] (He.fAd K ("Counted", some "behind")) fd
  f_W_LiesBeneath : ∃ fd, FunD K "lies_beneath" "Counted.lies_beneath" (defArgs sW_LiesBeneath) (defBody sW_LiesBeneath) (defScope sW_LiesBeneath) [] [] (He.fAd K ("Counted", some "lies_beneath")) fd
  f_LawCellAt : ∃ fd, FunD K "_law_cell_at" "_law_cell_at" (defArgs sLawCellAt) (defBody sLawCellAt) (defScope sLawCellAt) [] [] (He.fAd K ("_law_cell_at", none)) fd
  f_LawTwice : ∃ fd, FunD K "_law_twice" "_law_twice" (defArgs sLawTwice) (defBody sLawTwice) (defScope sLawTwice) [] [] (He.fAd K ("_law_twice", none)) fd
  f_LawGrown : ∃ fd, FunD K "_law_grown" "_law_grown" (defArgs sLawGrown) (defBody sLawGrown) (defScope sLawGrown) [] [] (He.fAd K ("_law_grown", none)) fd
  f_LawDrawn : ∃ fd, FunD K "_law_drawn" "_law_drawn" (defArgs sLawDrawn) (defBody sLawDrawn) (defScope sLawDrawn) [] [] (He.fAd K ("_law_drawn", none)) fd
  f_LawRepeated : ∃ fd, FunD K "_law_repeated" "_law_repeated" (defArgs sLawRepeated) (defBody sLawRepeated) (defScope sLawRepeated) [] [] (He.fAd K ("_law_repeated", none)) fd
  f_LawWood : ∃ fd, FunD K "_law_wood" "_law_wood" (defArgs sLawWood) (defBody sLawWood) (defScope sLawWood) [] [] (He.fAd K ("_law_wood", none)) fd
  f_LawPlain : ∃ fd, FunD K "_law_plain" "_law_plain" (defArgs sLawPlain) (defBody sLawPlain) (defScope sLawPlain) [] [] (He.fAd K ("_law_plain", none)) fd
  f_LawIs : ∃ fd, FunD K "_law_is" "_law_is" (defArgs sLawIs) (defBody sLawIs) (defScope sLawIs) [] [] (He.fAd K ("_law_is", none)) fd
  f_LawSome : ∃ fd, FunD K "_law_some" "_law_some" (defArgs sLawSome) (defBody sLawSome) (defScope sLawSome) [] [] (He.fAd K ("_law_some", none)) fd
  f_LawBegins : ∃ fd, FunD K "_law_begins" "_law_begins" (defArgs sLawBegins) (defBody sLawBegins) (defScope sLawBegins) [] [] (He.fAd K ("_law_begins", none)) fd
  f_LawRight : ∃ fd, FunD K "_law_right" "_law_right" (defArgs sLawRight) (defBody sLawRight) (defScope sLawRight) [] [] (He.fAd K ("_law_right", none)) fd
  f_Law : ∃ fd, FunD K "law" "law" (defArgs sLaw) (defBody sLaw) (defScope sLaw) [] [] (He.fAd K ("law", none)) fd
/-! ### the data for the head -/
def dOnesIn : He.DefD := ⟨("ones_in", none), "ones_in", "ones_in", defArgs sOnesIn, defBody sOnesIn, defScope sOnesIn, [], []⟩
def dNthOne : He.DefD := ⟨("nth_one", none), "nth_one", "nth_one", defArgs sNthOne, defBody sNthOne, defScope sNthOne, [], []⟩
def dIsAmid : He.DefD := ⟨("is_amid", none), "is_amid", "is_amid", defArgs sIsAmid, defBody sIsAmid, defScope sIsAmid, [], []⟩
def dWordsOf : He.DefD := ⟨("words_of", none), "words_of", "words_of", defArgs sWordsOf, defBody sWordsOf, defScope sWordsOf, [], []⟩
def dB_Init : He.DefD := ⟨("Bits", some "__init__"), "__init__", "Bits.__init__", defArgs sB_Init, defBody sB_Init, defScope sB_Init, [], []⟩
def dB_Size : He.DefD := ⟨("Bits", some "size"), "size", "Bits.size", defArgs sB_Size, defBody sB_Size, defScope sB_Size, [], []⟩
def dB_Words : He.DefD := ⟨("Bits", some "words"), "words", "Bits.words", defArgs sB_Words, defBody sB_Words, defScope sB_Words, [], []⟩
def dB_Need : He.DefD := ⟨("Bits", some "need"), "need", "Bits.need", defArgs sB_Need, defBody sB_Need, defScope sB_Need, [], []⟩
def dB_At : He.DefD := ⟨("Bits", some "at"), "at", "Bits.at", defArgs sB_At, defBody sB_At, defScope sB_At, [], []⟩
def dB_Bit : He.DefD := ⟨("Bits", some "bit"), "bit", "Bits.bit", defArgs sB_Bit, defBody sB_Bit, defScope sB_Bit, [], []⟩
def dIsWholeC : He.DefD := ⟨("is_whole_counts", none), "is_whole", "is_whole", defArgs sIsWholeC, defBody sIsWholeC, defScope sIsWholeC, [], []⟩
def dNeedBit : He.DefD := ⟨("need_bit", none), "need_bit", "need_bit", defArgs sNeedBit, defBody sNeedBit, defScope sNeedBit, [], []⟩
def dC_Init : He.DefD := ⟨("Counts", some "__init__"), "__init__", "Counts.__init__", defArgs sC_Init, defBody sC_Init, defScope sC_Init, [], []⟩
def dC_OnesAhead : He.DefD := ⟨("Counts", some "ones_ahead"), "ones_ahead", "Counts.ones_ahead", defArgs sC_OnesAhead, defBody sC_OnesAhead, defScope sC_OnesAhead, [], []⟩
def dC_Ahead : He.DefD := ⟨("Counts", some "ahead"), "ahead", "Counts.ahead", defArgs sC_Ahead, defBody sC_Ahead, defScope sC_Ahead, [], []⟩
def dC_Like : He.DefD := ⟨("Counts", some "like"), "like", "Counts.like", defArgs sC_Like, defBody sC_Like, defScope sC_Like, [], []⟩
def dC_LikeAhead : He.DefD := ⟨("Counts", some "like_ahead"), "like_ahead", "Counts.like_ahead", defArgs sC_LikeAhead, defBody sC_LikeAhead, defScope sC_LikeAhead, [], []⟩
def dC_AllLike : He.DefD := ⟨("Counts", some "all_like"), "all_like", "Counts.all_like", defArgs sC_AllLike, defBody sC_AllLike, defScope sC_AllLike, [], []⟩
def dC_BlockOf : He.DefD := ⟨("Counts", some "block_of"), "block_of", "Counts.block_of", defArgs sC_BlockOf, defBody sC_BlockOf, defScope sC_BlockOf, [], []⟩
def dC_PlaceOf : He.DefD := ⟨("Counts", some "place_of"), "place_of", "Counts.place_of", defArgs sC_PlaceOf, defBody sC_PlaceOf, defScope sC_PlaceOf, [], []⟩
def dIsWholeP : He.DefD := ⟨("is_whole_pairs", none), "is_whole", "is_whole", defArgs sIsWholeP, defBody sIsWholeP, defScope sIsWholeP, [], []⟩
def dAskRow : He.DefD := ⟨("ask_row", none), "ask_row", "ask_row", defArgs sAskRow, defBody sAskRow, defScope sAskRow, [], []⟩
def dTableOf : He.DefD := ⟨("table_of", none), "table_of", "table_of", defArgs sTableOf, defBody sTableOf, defScope sTableOf, [], []⟩
def dP_Init : He.DefD := ⟨("Pairs", some "__init__"), "__init__", "Pairs.__init__", defArgs sP_Init, defBody sP_Init, defScope sP_Init, [], []⟩
def dP_Size : He.DefD := ⟨("Pairs", some "size"), "size", "Pairs.size", defArgs sP_Size, defBody sP_Size, defScope sP_Size, [], []⟩
def dP_Height : He.DefD := ⟨("Pairs", some "height"), "height", "Pairs.height", defArgs sP_Height, defBody sP_Height, defScope sP_Height, [], []⟩
def dP_Step : He.DefD := ⟨("Pairs", some "step"), "step", "Pairs.step", defArgs sP_Step, defBody sP_Step, defScope sP_Step, [], []⟩
def dP_FirstIn : He.DefD := ⟨("Pairs", some "first_in"), "first_in", "Pairs.first_in", defArgs sP_FirstIn, defBody sP_FirstIn, defScope sP_FirstIn, [], []⟩
def dP_LastIn : He.DefD := ⟨("Pairs", some "last_in"), "last_in", "Pairs.last_in", defArgs sP_LastIn, defBody sP_LastIn, defScope sP_LastIn, [], []⟩
def dP_EndsOf : He.DefD := ⟨("Pairs", some "ends_of"), "ends_of", "Pairs.ends_of", defArgs sP_EndsOf, defBody sP_EndsOf, defScope sP_EndsOf, [], []⟩
def dP_NextAt : He.DefD := ⟨("Pairs", some "next_at"), "next_at", "Pairs.next_at", defArgs sP_NextAt, defBody sP_NextAt, defScope sP_NextAt, [], []⟩
def dP_LastAt : He.DefD := ⟨("Pairs", some "last_at"), "last_at", "Pairs.last_at", defArgs sP_LastAt, defBody sP_LastAt, defScope sP_LastAt, [], []⟩
def dP_AskHeight : He.DefD := ⟨("Pairs", some "ask_height"), "ask_height", "Pairs.ask_height", defArgs sP_AskHeight, defBody sP_AskHeight, defScope sP_AskHeight, [], []⟩
def dP_OpeningOf : He.DefD := ⟨("Pairs", some "opening_of"), "opening_of", "Pairs.opening_of", defArgs sP_OpeningOf, defBody sP_OpeningOf, defScope sP_OpeningOf, [], []⟩
def dP_Partner : He.DefD := ⟨("Pairs", some "partner"), "partner", "Pairs.partner", defArgs sP_Partner, defBody sP_Partner, defScope sP_Partner, [], []⟩
def dP_Round : He.DefD := ⟨("Pairs", some "round"), "round", "Pairs.round", defArgs sP_Round, defBody sP_Round, defScope sP_Round, [], []⟩
def dLookAt : He.DefD := ⟨("look_at", none), "look_at", "look_at", defArgs sLookAt, defBody sLookAt, defScope sLookAt, [], []⟩
def dIsFromNought : He.DefD := ⟨("is_from_nought", none), "is_from_nought", "is_from_nought", defArgs sIsFromNought, defBody sIsFromNought, defScope sIsFromNought, [], []⟩
def dGroupsRow : He.DefD := ⟨("groups_row", none), "groups_row", "groups_row", defArgs sGroupsRow, defBody sGroupsRow, defScope sGroupsRow, [], []⟩
def dCountedRow : He.DefD := ⟨("counted_row", none), "counted_row", "counted_row", defArgs sCountedRow, defBody sCountedRow, defScope sCountedRow, [], []⟩
def dW_Init : He.DefD := ⟨("Counted", some "__init__"), "__init__", "Counted.__init__", defArgs sW_Init, defBody sW_Init, defScope sW_Init, [], []⟩
def dW_Need : He.DefD := ⟨("Counted", some "need"), "need", "Counted.need", defArgs sW_Need, defBody sW_Need, defScope sW_Need, [], []⟩
def dW_Group : He.DefD := ⟨("Counted", some "group"), "group", "Counted.group", defArgs sW_Group, defBody sW_Group, defScope sW_Group, [], []⟩
def dW_SignOf : He.DefD := ⟨("Counted", some "sign_of"), "sign_of", "Counted.sign_of", defArgs sW_SignOf, defBody sW_SignOf, defScope sW_SignOf, [], []⟩
def dW_Over : He.DefD := ⟨("Counted", some "over"), "over", "Counted.over", defArgs sW_Over, defBody sW_Over, defScope sW_Over, [], []⟩
def dW_Row : He.DefD := ⟨("Counted", some "row"), "row", "Counted.row", defArgs sW_Row, defBody sW_Row, defScope sW_Row, [], []⟩
def dW_ChildPlace : He.DefD := ⟨("Counted", some "child_place"), "child_place", "Counted.child_place", defArgs sW_ChildPlace, defBody sW_ChildPlace, defScope sW_ChildPlace, [], []⟩
def dW_Stretch : He.DefD := ⟨("Counted", some "stretch"), "stretch", "Counted.stretch", defArgs sW_Stretch, defBody sW_Stretch, defScope sW_Stretch, [], []⟩
def dW_Behind : He.DefD := ⟨("Counted", some "behind"), "behind", "Counted.behind", defArgs sW_Behind, defBody sW_Behind, defScope sW_Behind, [], []⟩
def dW_LiesBeneath : He.DefD := ⟨("Counted", some "lies_beneath"), "lies_beneath", "Counted.lies_beneath", defArgs sW_LiesBeneath, defBody sW_LiesBeneath, defScope sW_LiesBeneath, [], []⟩
def dLawCellAt : He.DefD := ⟨("_law_cell_at", none), "_law_cell_at", "_law_cell_at", defArgs sLawCellAt, defBody sLawCellAt, defScope sLawCellAt, [], []⟩
def dLawTwice : He.DefD := ⟨("_law_twice", none), "_law_twice", "_law_twice", defArgs sLawTwice, defBody sLawTwice, defScope sLawTwice, [], []⟩
def dLawGrown : He.DefD := ⟨("_law_grown", none), "_law_grown", "_law_grown", defArgs sLawGrown, defBody sLawGrown, defScope sLawGrown, [], []⟩
def dLawDrawn : He.DefD := ⟨("_law_drawn", none), "_law_drawn", "_law_drawn", defArgs sLawDrawn, defBody sLawDrawn, defScope sLawDrawn, [], []⟩
def dLawRepeated : He.DefD := ⟨("_law_repeated", none), "_law_repeated", "_law_repeated", defArgs sLawRepeated, defBody sLawRepeated, defScope sLawRepeated, [], []⟩
def dLawWood : He.DefD := ⟨("_law_wood", none), "_law_wood", "_law_wood", defArgs sLawWood, defBody sLawWood, defScope sLawWood, [], []⟩
def dLawPlain : He.DefD := ⟨("_law_plain", none), "_law_plain", "_law_plain", defArgs sLawPlain, defBody sLawPlain, defScope sLawPlain, [], []⟩
def dLawIs : He.DefD := ⟨("_law_is", none), "_law_is", "_law_is", defArgs sLawIs, defBody sLawIs, defScope sLawIs, [], []⟩
def dLawSome : He.DefD := ⟨("_law_some", none), "_law_some", "_law_some", defArgs sLawSome, defBody sLawSome, defScope sLawSome, [], []⟩
def dLawBegins : He.DefD := ⟨("_law_begins", none), "_law_begins", "_law_begins", defArgs sLawBegins, defBody sLawBegins, defScope sLawBegins, [], []⟩
def dLawRight : He.DefD := ⟨("_law_right", none), "_law_right", "_law_right", defArgs sLawRight, defBody sLawRight, defScope sLawRight, [], []⟩
def dLaw : He.DefD := ⟨("law", none), "law", "law", defArgs sLaw, defBody sLaw, defScope sLaw, [], []⟩
def fn0 : List He.DefD := [dOnesIn, dNthOne, dIsAmid, dWordsOf, dB_Init, dB_Size, dB_Words, dB_Need, dB_At, dB_Bit, dIsWholeC, dNeedBit, dC_Init, dC_OnesAhead, dC_Ahead, dC_Like, dC_LikeAhead, dC_AllLike, dC_BlockOf, dC_PlaceOf, dIsWholeP, dAskRow, dTableOf, dP_Init, dP_Size, dP_Height, dP_Step, dP_FirstIn, dP_LastIn, dP_EndsOf]
def fn1 : List He.DefD := [dP_NextAt, dP_LastAt, dP_AskHeight, dP_OpeningOf, dP_Partner, dP_Round, dLookAt, dIsFromNought, dGroupsRow, dCountedRow, dW_Init, dW_Need, dW_Group, dW_SignOf, dW_Over, dW_Row, dW_ChildPlace, dW_Stretch, dW_Behind, dW_LiesBeneath, dLawCellAt, dLawTwice, dLawGrown, dLawDrawn, dLawRepeated, dLawWood, dLawPlain, dLawIs, dLawSome, dLawBegins]
def fn2 : List He.DefD := [dLawRight, dLaw]
def fn : List He.DefD := fn0 ++ fn1 ++ fn2
def fa0 : List He.Fa := [.glo "ones_in", .glo "nth_one", .glo "is_amid", .glo "words_of", .glo "need_bit", .glo "ask_row", .glo "table_of", .glo "look_at", .glo "is_from_nought", .glo "groups_row", .glo "counted_row", .glo "_law_cell_at", .glo "_law_twice", .glo "_law_grown", .glo "_law_drawn", .glo "_law_repeated", .glo "_law_wood", .glo "_law_plain", .glo "_law_is", .glo "_law_some", .glo "_law_begins", .glo "_law_right", .glo "is_whole_counts", .glo "is_whole_pairs", .glo "law", .glo "Bits", .glo "Counts", .glo "Pairs", .glo "Counted", .free "isinstance"]
def fa1 : List He.Fa := [.free "int", .free "bool", .free "str", .free "list", .free "tuple", .free "len", .free "sum", .free "all", .free "range", .free "enumerate", .free "min", .free "max", .free "reversed", .free "abs", .int "WORD_words" 32, .int "MOST_bits" 20000, .int "BLOCK" 8, .int "FULL" 4294967295, .int "STRETCH" 256, .int "MOST_pairs" 8192, .int "WORD_pairs" 32, .int "MOST_woods" 4000, .cls "Bits", .mkr "Bits", .noat "Bits" "kept", .noat "Bits" "length", .meth "Bits" "size", .meth "Bits" "words", .meth "Bits" "need", .meth "Bits" "at"]
def fa2 : List He.Fa := [.meth "Bits" "bit", .cls "Counts", .mkr "Counts", .noat "Counts" "kept", .noat "Counts" "all_many", .noat "Counts" "heads", .meth "Counts" "ones_ahead", .meth "Counts" "ahead", .meth "Counts" "like", .meth "Counts" "like_ahead", .meth "Counts" "all_like", .meth "Counts" "block_of", .meth "Counts" "place_of", .cls "Pairs", .mkr "Pairs", .noat "Pairs" "bits", .noat "Pairs" "kept", .noat "Pairs" "counts", .noat "Pairs" "laid", .meth "Pairs" "size", .meth "Pairs" "height", .meth "Pairs" "step", .meth "Pairs" "first_in", .meth "Pairs" "last_in", .meth "Pairs" "ends_of", .meth "Pairs" "next_at", .meth "Pairs" "last_at", .meth "Pairs" "ask_height", .meth "Pairs" "opening_of", .meth "Pairs" "partner"]
def fa3 : List He.Fa := [.meth "Pairs" "round", .cls "Counted", .mkr "Counted", .noat "Counted" "signs", .noat "Counted" "knots", .noat "Counted" "counts", .noat "Counted" "pairs", .meth "Counted" "need", .meth "Counted" "group", .meth "Counted" "sign_of", .meth "Counted" "over", .meth "Counted" "row", .meth "Counted" "child_place", .meth "Counted" "stretch", .meth "Counted" "behind", .meth "Counted" "lies_beneath"]
def fa : List He.Fa := fa0 ++ fa1 ++ fa2 ++ fa3
def loose0 : List Str := ["_wall", "WoodError", "NoBits", "NoPlace", "NoRow", "NoWood", "NoKnot", "WORD_words", "ones_in", "nth_one", "MOST_bits", "is_amid", "words_of", "Bits", "BLOCK", "FULL", "is_whole", "is_whole_counts", "need_bit", "Counts", "STRETCH", "MOST_pairs", "WORD_pairs", "is_whole_pairs", "ask_row", "table_of", "Pairs", "MOST_woods", "look_at", "Wood"]
def loose1 : List Str := ["is_from_nought", "groups_row", "counted_row", "Counted", "_law_cell_at", "_law_twice", "_law_grown", "_law_drawn", "_law_repeated", "_law_wood", "_law_plain", "_law_is", "_law_some", "_law_begins", "_law_right"]
def loose : List Str := loose0 ++ loose1
theorem txt_of {K : PySem.W.Frag} {h : Heap} {mg : Str → Option Value} (X : K.In h) (G : h.Ns mainGlobals mg) (c : He.SaysD fa fn K) : Txt K mg where
  g_ones_in := He.glo_ok X G (c.fact 0 (f := .glo "ones_in") rfl)
  g_nth_one := He.glo_ok X G (c.fact 1 (f := .glo "nth_one") rfl)
  g_is_amid := He.glo_ok X G (c.fact 2 (f := .glo "is_amid") rfl)
  g_words_of := He.glo_ok X G (c.fact 3 (f := .glo "words_of") rfl)
  g_need_bit := He.glo_ok X G (c.fact 4 (f := .glo "need_bit") rfl)
  g_ask_row := He.glo_ok X G (c.fact 5 (f := .glo "ask_row") rfl)
  g_table_of := He.glo_ok X G (c.fact 6 (f := .glo "table_of") rfl)
  g_look_at := He.glo_ok X G (c.fact 7 (f := .glo "look_at") rfl)
  g_is_from_nought := He.glo_ok X G (c.fact 8 (f := .glo "is_from_nought") rfl)
  g_groups_row := He.glo_ok X G (c.fact 9 (f := .glo "groups_row") rfl)
  g_counted_row := He.glo_ok X G (c.fact 10 (f := .glo "counted_row") rfl)
  g_law_cell_at := He.glo_ok X G (c.fact 11 (f := .glo "_law_cell_at") rfl)
  g_law_twice := He.glo_ok X G (c.fact 12 (f := .glo "_law_twice") rfl)
  g_law_grown := He.glo_ok X G (c.fact 13 (f := .glo "_law_grown") rfl)
  g_law_drawn := He.glo_ok X G (c.fact 14 (f := .glo "_law_drawn") rfl)
  g_law_repeated := He.glo_ok X G (c.fact 15 (f := .glo "_law_repeated") rfl)
  g_law_wood := He.glo_ok X G (c.fact 16 (f := .glo "_law_wood") rfl)
  g_law_plain := He.glo_ok X G (c.fact 17 (f := .glo "_law_plain") rfl)
  g_law_is := He.glo_ok X G (c.fact 18 (f := .glo "_law_is") rfl)
  g_law_some := He.glo_ok X G (c.fact 19 (f := .glo "_law_some") rfl)
  g_law_begins := He.glo_ok X G (c.fact 20 (f := .glo "_law_begins") rfl)
  g_law_right := He.glo_ok X G (c.fact 21 (f := .glo "_law_right") rfl)
  g_is_whole_counts := He.glo_ok X G (c.fact 22 (f := .glo "is_whole_counts") rfl)
  g_is_whole_pairs := He.glo_ok X G (c.fact 23 (f := .glo "is_whole_pairs") rfl)
  g_law := He.glo_ok X G (c.fact 24 (f := .glo "law") rfl)
  g_Bits := He.glo_ok X G (c.fact 25 (f := .glo "Bits") rfl)
  g_Counts := He.glo_ok X G (c.fact 26 (f := .glo "Counts") rfl)
  g_Pairs := He.glo_ok X G (c.fact 27 (f := .glo "Pairs") rfl)
  g_Counted := He.glo_ok X G (c.fact 28 (f := .glo "Counted") rfl)
  z_isinstance := He.free_ok X G (c.fact 29 (f := .free "isinstance") rfl)
  z_int := He.free_ok X G (c.fact 30 (f := .free "int") rfl)
  z_bool := He.free_ok X G (c.fact 31 (f := .free "bool") rfl)
  z_str := He.free_ok X G (c.fact 32 (f := .free "str") rfl)
  z_list := He.free_ok X G (c.fact 33 (f := .free "list") rfl)
  z_tuple := He.free_ok X G (c.fact 34 (f := .free "tuple") rfl)
  z_len := He.free_ok X G (c.fact 35 (f := .free "len") rfl)
  z_sum := He.free_ok X G (c.fact 36 (f := .free "sum") rfl)
  z_all := He.free_ok X G (c.fact 37 (f := .free "all") rfl)
  z_range := He.free_ok X G (c.fact 38 (f := .free "range") rfl)
  z_enumerate := He.free_ok X G (c.fact 39 (f := .free "enumerate") rfl)
  z_min := He.free_ok X G (c.fact 40 (f := .free "min") rfl)
  z_max := He.free_ok X G (c.fact 41 (f := .free "max") rfl)
  z_reversed := He.free_ok X G (c.fact 42 (f := .free "reversed") rfl)
  z_abs := He.free_ok X G (c.fact 43 (f := .free "abs") rfl)
  i_WORD_words := He.int_ok X G (c.fact 44 (f := .int "WORD_words" 32) rfl)
  i_MOST_bits := He.int_ok X G (c.fact 45 (f := .int "MOST_bits" 20000) rfl)
  i_BLOCK := He.int_ok X G (c.fact 46 (f := .int "BLOCK" 8) rfl)
  i_FULL := He.int_ok X G (c.fact 47 (f := .int "FULL" 4294967295) rfl)
  i_STRETCH := He.int_ok X G (c.fact 48 (f := .int "STRETCH" 256) rfl)
  i_MOST_pairs := He.int_ok X G (c.fact 49 (f := .int "MOST_pairs" 8192) rfl)
  i_WORD_pairs := He.int_ok X G (c.fact 50 (f := .int "WORD_pairs" 32) rfl)
  i_MOST_woods := He.int_ok X G (c.fact 51 (f := .int "MOST_woods" 4000) rfl)
  c_Bits := He.cls_ok (c.fact 52 (f := .cls "Bits") rfl)
  k_Bits := He.mkr_ok (c.fact 53 (f := .mkr "Bits") rfl)
  n_Bits_kept := He.noat_ok (c.fact 54 (f := .noat "Bits" "kept") rfl)
  n_Bits_length := He.noat_ok (c.fact 55 (f := .noat "Bits" "length") rfl)
  m_Bits_size := He.meth_ok (c.fact 56 (f := .meth "Bits" "size") rfl)
  m_Bits_words := He.meth_ok (c.fact 57 (f := .meth "Bits" "words") rfl)
  m_Bits_need := He.meth_ok (c.fact 58 (f := .meth "Bits" "need") rfl)
  m_Bits_at := He.meth_ok (c.fact 59 (f := .meth "Bits" "at") rfl)
  m_Bits_bit := He.meth_ok (c.fact 60 (f := .meth "Bits" "bit") rfl)
  c_Counts := He.cls_ok (c.fact 61 (f := .cls "Counts") rfl)
  k_Counts := He.mkr_ok (c.fact 62 (f := .mkr "Counts") rfl)
  n_Counts_kept := He.noat_ok (c.fact 63 (f := .noat "Counts" "kept") rfl)
  n_Counts_all_many := He.noat_ok (c.fact 64 (f := .noat "Counts" "all_many") rfl)
  n_Counts_heads := He.noat_ok (c.fact 65 (f := .noat "Counts" "heads") rfl)
  m_Counts_ones_ahead := He.meth_ok (c.fact 66 (f := .meth "Counts" "ones_ahead") rfl)
  m_Counts_ahead := He.meth_ok (c.fact 67 (f := .meth "Counts" "ahead") rfl)
  m_Counts_like := He.meth_ok (c.fact 68 (f := .meth "Counts" "like") rfl)
  m_Counts_like_ahead := He.meth_ok (c.fact 69 (f := .meth "Counts" "like_ahead") rfl)
  m_Counts_all_like := He.meth_ok (c.fact 70 (f := .meth "Counts" "all_like") rfl)
  m_Counts_block_of := He.meth_ok (c.fact 71 (f := .meth "Counts" "block_of") rfl)
  m_Counts_place_of := He.meth_ok (c.fact 72 (f := .meth "Counts" "place_of") rfl)
  c_Pairs := He.cls_ok (c.fact 73 (f := .cls "Pairs") rfl)
  k_Pairs := He.mkr_ok (c.fact 74 (f := .mkr "Pairs") rfl)
  n_Pairs_bits := He.noat_ok (c.fact 75 (f := .noat "Pairs" "bits") rfl)
  n_Pairs_kept := He.noat_ok (c.fact 76 (f := .noat "Pairs" "kept") rfl)
  n_Pairs_counts := He.noat_ok (c.fact 77 (f := .noat "Pairs" "counts") rfl)
  n_Pairs_laid := He.noat_ok (c.fact 78 (f := .noat "Pairs" "laid") rfl)
  m_Pairs_size := He.meth_ok (c.fact 79 (f := .meth "Pairs" "size") rfl)
  m_Pairs_height := He.meth_ok (c.fact 80 (f := .meth "Pairs" "height") rfl)
  m_Pairs_step := He.meth_ok (c.fact 81 (f := .meth "Pairs" "step") rfl)
  m_Pairs_first_in := He.meth_ok (c.fact 82 (f := .meth "Pairs" "first_in") rfl)
  m_Pairs_last_in := He.meth_ok (c.fact 83 (f := .meth "Pairs" "last_in") rfl)
  m_Pairs_ends_of := He.meth_ok (c.fact 84 (f := .meth "Pairs" "ends_of") rfl)
  m_Pairs_next_at := He.meth_ok (c.fact 85 (f := .meth "Pairs" "next_at") rfl)
  m_Pairs_last_at := He.meth_ok (c.fact 86 (f := .meth "Pairs" "last_at") rfl)
  m_Pairs_ask_height := He.meth_ok (c.fact 87 (f := .meth "Pairs" "ask_height") rfl)
  m_Pairs_opening_of := He.meth_ok (c.fact 88 (f := .meth "Pairs" "opening_of") rfl)
  m_Pairs_partner := He.meth_ok (c.fact 89 (f := .meth "Pairs" "partner") rfl)
  m_Pairs_round := He.meth_ok (c.fact 90 (f := .meth "Pairs" "round") rfl)
  c_Counted := He.cls_ok (c.fact 91 (f := .cls "Counted") rfl)
  k_Counted := He.mkr_ok (c.fact 92 (f := .mkr "Counted") rfl)
  n_Counted_signs := He.noat_ok (c.fact 93 (f := .noat "Counted" "signs") rfl)
  n_Counted_knots := He.noat_ok (c.fact 94 (f := .noat "Counted" "knots") rfl)
  n_Counted_counts := He.noat_ok (c.fact 95 (f := .noat "Counted" "counts") rfl)
  n_Counted_pairs := He.noat_ok (c.fact 96 (f := .noat "Counted" "pairs") rfl)
  m_Counted_need := He.meth_ok (c.fact 97 (f := .meth "Counted" "need") rfl)
  m_Counted_group := He.meth_ok (c.fact 98 (f := .meth "Counted" "group") rfl)
  m_Counted_sign_of := He.meth_ok (c.fact 99 (f := .meth "Counted" "sign_of") rfl)
  m_Counted_over := He.meth_ok (c.fact 100 (f := .meth "Counted" "over") rfl)
  m_Counted_row := He.meth_ok (c.fact 101 (f := .meth "Counted" "row") rfl)
  m_Counted_child_place := He.meth_ok (c.fact 102 (f := .meth "Counted" "child_place") rfl)
  m_Counted_stretch := He.meth_ok (c.fact 103 (f := .meth "Counted" "stretch") rfl)
  m_Counted_behind := He.meth_ok (c.fact 104 (f := .meth "Counted" "behind") rfl)
  m_Counted_lies_beneath := He.meth_ok (c.fact 105 (f := .meth "Counted" "lies_beneath") rfl)
  f_OnesIn := c.def_ 0 (d := dOnesIn) rfl
  f_NthOne := c.def_ 1 (d := dNthOne) rfl
  f_IsAmid := c.def_ 2 (d := dIsAmid) rfl
  f_WordsOf := c.def_ 3 (d := dWordsOf) rfl
  f_B_Init := c.def_ 4 (d := dB_Init) rfl
  f_B_Size := c.def_ 5 (d := dB_Size) rfl
  f_B_Words := c.def_ 6 (d := dB_Words) rfl
  f_B_Need := c.def_ 7 (d := dB_Need) rfl
  f_B_At := c.def_ 8 (d := dB_At) rfl
  f_B_Bit := c.def_ 9 (d := dB_Bit) rfl
  f_IsWholeC := c.def_ 10 (d := dIsWholeC) rfl
  f_NeedBit := c.def_ 11 (d := dNeedBit) rfl
  f_C_Init := c.def_ 12 (d := dC_Init) rfl
  f_C_OnesAhead := c.def_ 13 (d := dC_OnesAhead) rfl
  f_C_Ahead := c.def_ 14 (d := dC_Ahead) rfl
  f_C_Like := c.def_ 15 (d := dC_Like) rfl
  f_C_LikeAhead := c.def_ 16 (d := dC_LikeAhead) rfl
  f_C_AllLike := c.def_ 17 (d := dC_AllLike) rfl
  f_C_BlockOf := c.def_ 18 (d := dC_BlockOf) rfl
  f_C_PlaceOf := c.def_ 19 (d := dC_PlaceOf) rfl
  f_IsWholeP := c.def_ 20 (d := dIsWholeP) rfl
  f_AskRow := c.def_ 21 (d := dAskRow) rfl
  f_TableOf := c.def_ 22 (d := dTableOf) rfl
  f_P_Init := c.def_ 23 (d := dP_Init) rfl
  f_P_Size := c.def_ 24 (d := dP_Size) rfl
  f_P_Height := c.def_ 25 (d := dP_Height) rfl
  f_P_Step := c.def_ 26 (d := dP_Step) rfl
  f_P_FirstIn := c.def_ 27 (d := dP_FirstIn) rfl
  f_P_LastIn := c.def_ 28 (d := dP_LastIn) rfl
  f_P_EndsOf := c.def_ 29 (d := dP_EndsOf) rfl
  f_P_NextAt := c.def_ 30 (d := dP_NextAt) rfl
  f_P_LastAt := c.def_ 31 (d := dP_LastAt) rfl
  f_P_AskHeight := c.def_ 32 (d := dP_AskHeight) rfl
  f_P_OpeningOf := c.def_ 33 (d := dP_OpeningOf) rfl
  f_P_Partner := c.def_ 34 (d := dP_Partner) rfl
  f_P_Round := c.def_ 35 (d := dP_Round) rfl
  f_LookAt := c.def_ 36 (d := dLookAt) rfl
  f_IsFromNought := c.def_ 37 (d := dIsFromNought) rfl
  f_GroupsRow := c.def_ 38 (d := dGroupsRow) rfl
  f_CountedRow := c.def_ 39 (d := dCountedRow) rfl
  f_W_Init := c.def_ 40 (d := dW_Init) rfl
  f_W_Need := c.def_ 41 (d := dW_Need) rfl
  f_W_Group := c.def_ 42 (d := dW_Group) rfl
  f_W_SignOf := c.def_ 43 (d := dW_SignOf) rfl
  f_W_Over := c.def_ 44 (d := dW_Over) rfl
  f_W_Row := c.def_ 45 (d := dW_Row) rfl
  f_W_ChildPlace := c.def_ 46 (d := dW_ChildPlace) rfl
  f_W_Stretch := c.def_ 47 (d := dW_Stretch) rfl
  f_W_Behind := c.def_ 48 (d := dW_Behind) rfl
  f_W_LiesBeneath := c.def_ 49 (d := dW_LiesBeneath) rfl
  f_LawCellAt := c.def_ 50 (d := dLawCellAt) rfl
  f_LawTwice := c.def_ 51 (d := dLawTwice) rfl
  f_LawGrown := c.def_ 52 (d := dLawGrown) rfl
  f_LawDrawn := c.def_ 53 (d := dLawDrawn) rfl
  f_LawRepeated := c.def_ 54 (d := dLawRepeated) rfl
  f_LawWood := c.def_ 55 (d := dLawWood) rfl
  f_LawPlain := c.def_ 56 (d := dLawPlain) rfl
  f_LawIs := c.def_ 57 (d := dLawIs) rfl
  f_LawSome := c.def_ 58 (d := dLawSome) rfl
  f_LawBegins := c.def_ 59 (d := dLawBegins) rfl
  f_LawRight := c.def_ 60 (d := dLawRight) rfl
  f_Law := c.def_ 61 (d := dLaw) rfl
end TW
/-! Hd: the head (printed by gen_tx.py). -/
namespace TW
open PySem PySem.Spec PyProof.Rows L2
abbrev RW : PySem.W.OpenRow := PySem.W.OpenLaw.row PySem.Challenge.rw_tightwood_k53_stretches
/-- what stands in one layer below these addresses, and so on, n layers down -/
def lay (g : Addr → Option Obj) : Nat → List Addr → List Addr
  | 0, _ => []
  | n + 1, as =>
    let bs := as.flatMap fun a => match g a with
      | some o => He.refsD o
      | none => []
    bs ++ lay g n bs
def asL (g : Addr → Option Obj) : List Addr := mainGlobals :: lay g 5 [mainGlobals]
def obL (g : Addr → Option Obj) : He.AlD := He.obsD fa fn (He.frG g (asL g))
def hk : PySem.W.Hook where
  α := He.AlD
  obs := fun s => obL s.heap.get?
  val := fun _ => He.valD fn
  says := fun _ h => ∃ K : PySem.W.Frag, K.In h ∧ He.SaysD fa fn K
  of := fun _ _ e => ⟨_, He.frG_in, e⟩
  keeps := fun _ _ _ ⟨K, hK, c⟩ k => ⟨K, PySem.W.Frag.In.keeps hK k, c⟩
def ob (s : PySem.W.SharedT) : He.AlD := obL (HandSHeadRun.getT s)
theorem ob_eq (s : PySem.W.SharedT) : ob s = hk.obs s.abs := by
  have e : HandSHeadRun.getT s = s.abs.heap.get? := funext (HandSHeadRun.getT_eq s)
  show obL (HandSHeadRun.getT s) = obL s.abs.heap.get?
  rw [e]
theorem run (w : World) : HandSHeadRun.RunEq RW (PySem.W.view RW.prog [55]) hk ob 12000 loose w := by
  intro os
  kernel_rfl
end TW
/-! Bs: rules of our own beside the layer's, short words. -/
namespace TW
open PySem PySem.Spec PyProof.Rows L2
/-! ### a text times a number -/
section
variable {X : Cx}
theorem mulOk_small {x : Str} {n : Int} (h : x.length ≤ 100) (h1 : 0 ≤ n) (h2 : n ≤ 10000) : MulOk x n := by
  have e1 : ¬ n < -(2 ^ 63 : Int) := by omega
  have e2 : ¬ n ≥ (2 ^ 63 : Int) := by omega
  refine ⟨by simp only [e1, e2, decide_false, Bool.or_false], fun h3 _ => ?_, fun _ _ => ?_⟩
  · have h4 : (1 : Int) ≤ n := by omega
    have : (100 : Int) ≤ (2 ^ 63 - 1) / n := by
      rw [Int.le_ediv_iff_mul_le (by omega)]
      omega
    omega
  · have h5 : x.length * n.toNat ≤ 100 * 10000 := Nat.mul_le_mul h (by omega)
    have : ¬ (Builtin.Str.tooLong (x.length * n.toNat) = true) := by
      intro h6
      unfold Builtin.Str.tooLong at h6
      simp only [decide_eq_true_eq] at h6
      have : sizeLine = 16777216 := by rfl
      omega
    cases q : Builtin.Str.tooLong (x.length * n.toNat) with
    | false => rfl
    | true => exact absurd q this
theorem op_mul_str : OpR X (binaryOp .Mult) (fun x y H Q => ∃ (i : Str) (n : Int), x = .str i ∧ y = .int n ∧ MulOk i n ∧ Q (.str (Txt.mul i n)) H) := by
  intro pins s σ H x y v u Q I rx ry h
  obtain ⟨i, n, rfl, rfl, hz, q⟩ := h
  obtain ⟨t, rfl⟩ := rx
  obtain ⟨t', rfl⟩ := ry
  exact SB.mul hz (fun t' tk => ⟨.str (Txt.mul i n), H, I.tok _, ⟨_, rfl⟩, q⟩)
/-! ### enumerate(text) -/
def ItEs (x : Str) : It := ⟨fun i _ => i < x.cps.size, fun i H v H' => ∃ T c, v = .ref T ∧ H T = none ∧ H' = upd H T (.tup [.int (i : Nat), .str ⟨#[c]⟩]) ∧ x.cps[i]? = some c, fun i _ => i = x.cps.size⟩
theorem turn_enumS {P : Program} {w : World} {K : PySem.W.Frag} {elts : List Expr} {kk : Nat} {tpos : Pos} (x : Str) (t : Tok) (e it : Addr) :
    Turn P w K (.Tuple elts kk tpos) (ItEs x) [e, it] e (fun i h => (∃ old, IsEnum h e it ((i : Nat) : Int) old) ∧ h.IsStrIter it (strIterType x) x t i ∧ e ≠ it) where
  mem := by simp
  obj := fun i h st b hb => by
    obtain ⟨⟨old, he⟩, ⟨o, ho, hc, hd⟩, _⟩ := st
    have e' : b = e ∨ b = it := by simpa using hb
    rcases e' with z | z
    · rw [z]; exact ⟨_, he, fun v q => nomatch q⟩
    · rw [z]; exact ⟨o, ho, fun v q => by rw [hd] at q; cases q⟩
  keep := fun i h h' st k => let ⟨⟨old, he⟩, ⟨o, ho, r⟩, hne⟩ := st; ⟨⟨old, k e (by simp) _ he⟩, ⟨o, k it (by simp) o ho, r⟩, hne⟩
  item := by
    intro X hP hw hK hc i pins s σ H E I hf st hg
    subst hP hw hK
    obtain ⟨⟨old, he⟩, hit, hne⟩ := st
    have hel : e < s.heap.objs.size := Heap.lt_size he
    have hil : it < s.heap.objs.size := by obtain ⟨_, q, _⟩ := hit; exact Heap.lt_size q
    have D : Draws X.prog X.w X.A.in1 it [it] x.cps.size (fun i v => ∃ c u, x.cps[i]? = some c ∧ v = .str ⟨#[c]⟩ u) (fun i h => h.IsStrIter it (strIterType x) x t i) := Draws.text (show X.A.in1.handled = none from I.ok.hd hc) it x t
    refine wpAny_pyNext_enum_itemC (c := (i : Int)) D he hit hg hne (by simpa using hne) fun u h' tk hP ho hit' hT hsz hk => ?_
    obtain ⟨c, tu, hcx, rfl⟩ := hP
    refine ⟨_, rfl, wpAny_letOwnedTupleGo_enum (s := { s with heap := h', toks := tk + 1 }) ho fun h'' he' sb => ?_⟩
    have hT2 : h''.get? s.heap.objs.size = some { cls := .type "tuple", data := .seq #[.int i tk, .str ⟨#[c]⟩ tu] } := (sb.2 _ (Nat.ne_of_gt hel)).trans hT
    have new : ObjOk X.prog X.w (upd H s.heap.objs.size (.tup [.int (i : Nat), .str ⟨#[c]⟩])) h'' s.heap.objs.size (.tup [.int (i : Nat), .str ⟨#[c]⟩]) :=
      ⟨by show 2 ≤ sizeLine; decide, [.int i tk, .str ⟨#[c]⟩ tu], .cons ⟨_, rfl⟩ (.cons ⟨_, rfl⟩ .nil), ⟨_, hT2, rfl, _, rfl⟩⟩
    have I1 : Inv X pins σ (upd H s.heap.objs.size (.tup [.int (i : Nat), .str ⟨#[c]⟩])) { s with heap := h'', toks := tk + 1 } :=
      I.turnedNew (ch := [e, it]) (fun b ob hb q => (sb.2 b (fun z => hb (by simp [z]))).trans (hk b ob (fun z => hb (by simp [z])) (fun z => hb (by simp [z])) q)) hf (Nat.le_refl _) new
    refine ⟨.ref s.heap.objs.size, _, I1, rfl, ⟨_, c, rfl, I.hok.fresh (Nat.le_refl _), rfl, hcx⟩, ⟨⟨.str ⟨#[c]⟩ tu, ?_⟩, ?_, hne⟩, fun b hb => ?_⟩
    · have e1 : ((i + 1 : Nat) : Int) = (i : Int) + 1 := by omega
      rw [e1]; exact he'
    · obtain ⟨o, q, r⟩ := hit'
      exact ⟨o, (sb.2 it (Ne.symm hne)).trans q, r⟩
    · have hb' : b < s.heap.objs.size := by
        have e' : b = e ∨ b = it := by simpa using hb
        rcases e' with z | z
        · rw [z]; exact hel
        · rw [z]; exact hil
      rw [upd_ne (Nat.ne_of_lt hb')]
      exact (hf b hb).1
  done := by
    intro X hP hw hK hc i pins s σ H E I hf st hg
    subst hP hw hK
    obtain ⟨⟨old, he⟩, hit, hne⟩ := st
    obtain ⟨f0, f1, f2, f3, f4, f5⟩ := hf it (by simp)
    have hi : i = x.cps.size := hg
    subst hi
    have D : Draws X.prog X.w X.A.in1 it [it] x.cps.size (fun i v => ∃ c u, x.cps[i]? = some c ∧ v = .str ⟨#[c]⟩ u) (fun i h => h.IsStrIter it (strIterType x) x t i) := Draws.text (show X.A.in1.handled = none from I.ok.hd hc) it x t
    exact wpAny_pyNext_enum_endD D he hit fun h' eb => ⟨rfl, I.turned (t' := s.toks) (fun b o hb q => eb b o hb q) f0 f1 f3 f4 f5⟩
  self := fun A i s Q E st h => let ⟨⟨_, he⟩, _⟩ := st; wpAny_pyIter_enum he h
def iEnumS (ta : TA) : TI := fun σ H R => ta σ H fun vs H1 => ∃ x, vs = [.str x] ∧ R (ItEs x) H1
theorem pi_enumS {e : Expr} {ta : TA} {p pos tpos : Pos} {elts : List Expr} {kk : Nat} (hg : Gl X "enumerate") (hm : X.mg "enumerate" = none) (ha : PA X [e] ta) (hs : starEach [e] X.env = [(false, eval e X.env)] := by rfl) :
    PI X (.Tuple elts kk tpos) (.Call (.Name "enumerate" p) [e] [] pos) (iEnumS ta) := by
  refine ⟨fun pins s σ H R I h => ?_⟩
  refine Call_ (ld_blt I hg hm boot_enumerate (PyProof.Rows.callWith_type1 (thn (ha.run pos pins s σ H _ I h) fun us s1 ⟨vs, H1, I1, r1, q1⟩ => ?_) hs rfl))
  obtain ⟨x, ex, q⟩ := q1
  subst ex
  cases r1 with
  | cons r rr =>
    cases rr
    obtain ⟨t, rfl⟩ := r
    refine call_enumerate_str fun h' he hit hsz hk => wpAny_pyIter_enum he ?_
    have I2 : Inv X pins σ H1 { s1 with heap := h' } := I1.kept (t' := s1.toks) hk
    refine ⟨s1.heap.objs.size + 1, [s1.heap.objs.size + 1, s1.heap.objs.size], _, _, H1, rfl, I2, turn_enumS x t (s1.heap.objs.size + 1) s1.heap.objs.size, ⟨⟨.none, he⟩, hit, Nat.succ_ne_self _⟩, fun b hb => ?_, q⟩
    have e' : b = s1.heap.objs.size + 1 ∨ b = s1.heap.objs.size := by simpa using hb
    have hle : s1.heap.objs.size ≤ b := by
      rcases e' with z | z
      · rw [z]; exact Nat.le_add_right _ _
      · rw [z]; exact Nat.le_refl _
    exact I1.fpOk hle (I1.hok.fresh hle)
theorem walk_enumS {x : Str} : Walk (ItEs x) x.cps.size (fun _ => True) (fun i H v H' => ∃ T c, v = .ref T ∧ H T = none ∧ H' = upd H T (.tup [.int (i : Nat), .str ⟨#[c]⟩]) ∧ x.cps[i]? = some c) :=
  ⟨fun _ _ hi _ => hi, fun _ _ => rfl, fun _ _ _ _ _ _ y => y⟩
/-! ### xs[i] op= e -/
theorem get_list : PGet X (rIxL X.K) := by
  intro pins s σ H o i ov iv Q I rx ry h
  obtain ⟨p, xs, i, z, rfl, rfl, hq, he, q⟩ := h
  cases rx
  obtain ⟨t, rfl⟩ := ry
  obtain ⟨its, r, pl, hz⟩ := I.list hq
  obtain ⟨j, h1, h2, h3, h4, h5⟩ := atI_get he
  obtain ⟨w, ew, rw'⟩ := r.get h2
  have hl := r.length
  have hn := line63
  have fin : EP X pins σ Q w s := ⟨z, H, I, rw', q⟩
  by_cases h0 : 0 ≤ i
  · have hj : i.toNat = j := by
      rw [seqIndex_of h0 h5] at h1
      exact Option.some.inj h1
    exact wpAny_getItem_list pl.isList h0 (by omega) (by rw [hj]; simpa using ew) fin
  · have hj : (i + (its.toArray.size : Int)).toNat = j := by
      rw [seqIndex_neg (by omega) h4] at h1
      rw [List.size_toArray, ← hl]
      exact Option.some.inj h1
    exact wpAny_getItem_list_neg pl.isList (by omega) (by rw [List.size_toArray] <;> omega) (by omega) (by rw [hj]; simpa using ew) fin
end
end TW
/-! Sp: how a def is called by name, what stands in the heap, the promises. -/
namespace TW
open PySem PySem.Spec PyProof.Rows L2
/-! ### calls -/
section
variable (P : Program) (w : World) (K : PySem.W.Frag) (mg : Str → Option Value) (base : Heap) (k : Nat)
structure Cl (x : Str) (sp : Sp) : Prop where
  ex : ∃ (f : Addr) (fd : FuncData) (ps : List Str), FnOk P w K mg base CX0 k f fd ps sp ∧ mg x = some (.ref f) ∧ PySem.W.keepIn K (.ref f) = true ∧ Binds K fd ps []
structure Mt (C : Addr) (m : Str) (sp : Sp) : Prop where
  ex : ∃ (f : Addr) (fd : FuncData) (ps : List Str), Cls K C ∧ Meth K C m f ∧ FnOk P w K mg base CX0 k f fd ps sp ∧ Binds K fd ps []
structure Mkk (x : Str) (C : Addr) (sp : Sp) : Prop where
  ex : ∃ (f : Addr) (fd : FuncData) (ps : List Str), Mk K C f ∧ FnOk P w K mg base CX0 k f fd ps sp ∧ mg x = some (.ref C) ∧ Binds K fd ps []
end
section
variable {P : Program} {w : World} {K : PySem.W.Frag} {mg : Str → Option Value} {base : Heap}
/-- a def keeps its promise -/
theorem fn_ok {n q : Str} {st : Stmt} {f : Addr} {N ps : List Str} {k : Nat} {sp : Sp} (F : ∃ fd, FunD K n q (defArgs st) (defBody st) (defScope st) [] [] f fd) (S : FnScope N ps (defScope st)) (len : ∀ vs H Q E, sp vs H Q E → vs.length = ps.length)
    (hb : ∀ (kV doc pm : Value) (an : Option Addr) (cdv ct : Value) (us : List Value), us.length = ps.length → bindArgs (PySem.W.fnOf n q (defArgs st) (defBody st) (defScope st) .none kV doc pm an cdv ct) ⟨us, []⟩ = pure (ps.zip us))
    (hbody : ∀ (cdv : Value) (A : Around) (outer : List Env) (s : Shared) (H : Hp) (vs : List V) (Q : VK) (E : XK), Room k (A.deeper (envOfC q (defScope st) s.heap.objs.size f cdv)) → sp vs H Q E →
      ∃ t, PSs (cxOf CX0 P w K mg base N q (defScope st) f cdv A outer s H E).nox (defBody st) t ∧ t { nx := fun _ H' => Q .non H', rt := Q } (start N vs) H) :
    ∃ fd, FnOk P w K mg base CX0 (k + 1) f fd ps sp ∧ PySem.W.keepIn K (.ref f) = true ∧ Binds K fd ps [] ∧ FunD K n q (defArgs st) (defBody st) (defScope st) [] [] f fd := by
  obtain ⟨fd, F⟩ := F
  refine ⟨fd, F.ok S len fun cdv A outer s H vs Q E hr hsp => ?_, F.kp, F.bindsN hb, F⟩
  obtain ⟨t, h, q⟩ := hbody cdv A outer s H vs Q E hr hsp
  exact ⟨t, h.nox, q⟩
theorem cl_of {x n q : Str} {st : Stmt} {f : Addr} {ps : List Str} {k : Nat} {sp : Sp} (g : mg x = some (.ref f)) (h : ∃ fd, FnOk P w K mg base CX0 k f fd ps sp ∧ PySem.W.keepIn K (.ref f) = true ∧ Binds K fd ps [] ∧ FunD K n q (defArgs st) (defBody st) (defScope st) [] [] f fd) : Cl P w K mg base k x sp := by
  obtain ⟨fd, h1, h2, h3, _⟩ := h
  exact ⟨f, fd, ps, h1, g, h2, h3⟩
theorem mt_of {C : Addr} {m n q : Str} {st : Stmt} {f : Addr} {ps : List Str} {k : Nat} {sp : Sp} (c : Cls K C) (me : Meth K C m f) (h : ∃ fd, FnOk P w K mg base CX0 k f fd ps sp ∧ PySem.W.keepIn K (.ref f) = true ∧ Binds K fd ps [] ∧ FunD K n q (defArgs st) (defBody st) (defScope st) [] [] f fd) : Mt P w K mg base k C m sp := by
  obtain ⟨fd, h1, h2, h3, _⟩ := h
  exact ⟨f, fd, ps, c, me, h1, h3⟩
theorem mk_of {x : Str} {C : Addr} {n q : Str} {st : Stmt} {f : Addr} {ps : List Str} {k : Nat} {sp : Sp} (M : Mk K C f) (g : mg x = some (.ref C)) (h : ∃ fd, FnOk P w K mg base CX0 k f fd ps sp ∧ PySem.W.keepIn K (.ref f) = true ∧ Binds K fd ps [] ∧ FunD K n q (defArgs st) (defBody st) (defScope st) [] [] f fd) : Mkk P w K mg base k x C sp := by
  obtain ⟨fd, h1, h2, h3, _⟩ := h
  exact ⟨f, fd, ps, M, h1, g, h3⟩
end
section
variable {X : Cx} {k j : Nat} {C : Addr} {x m : Str} {sp : Sp} {p pos apos : Pos} {e o : Expr} {es : List Expr} {ta : TE} {t : TA}
theorem pe_c (c : Cl X.prog X.w X.K X.mg X.base k x sp) (hr : Room j X.A) (ha : PA X (e :: es) t) (hk : k ≤ j := by decide) (hg : Gl X x := by rfl)
    (hdb : (x == ("__debug__" : Str)) = false := by decide) (he : starEach (e :: es) X.env = (false, eval e X.env) :: starEach es X.env := by rfl) (hpl : (backTo pos (starEach es X.env)).any (·.1) = false := by rfl) :
    PE X (.Call (.Name x p) (e :: es) [] pos) (tCall sp [] E0 t) := by
  obtain ⟨f, fd, ps, F, hm, kp, b⟩ := c.ex
  exact pe_call F (hr.mono hk) hg hm kp b .nil pass0 ha hdb he hpl
theorem pe_mk (c : Mkk X.prog X.w X.K X.mg X.base k x C sp) (hr : Room j X.A) (ha : PA X (e :: es) t) (hk : k + 1 ≤ j := by decide) (hg : Gl X x := by rfl)
    (hdb : (x == ("__debug__" : Str)) = false := by decide) (he : starEach (e :: es) X.env = (false, eval e X.env) :: starEach es X.env := by rfl) (hpl : (backTo pos (starEach es X.env)).any (·.1) = false := by rfl) :
    PE X (.Call (.Name x p) (e :: es) [] pos) (tMake C sp [] E0 t) := by
  obtain ⟨f, fd, ps, M, F, hm, b⟩ := c.ex
  exact pe_make M F (hr.mono hk) hg hm b .nil pass0 ha hdb he hpl
theorem pe_m {pl : Sem Bool} (c : Mt X.prog X.w X.K X.mg X.base k C m sp) (hr : Room j X.A) (he : PE X o ta) (ha : PA X (e :: es) t) (hk : k ≤ j := by decide)
    (hst : starEach (e :: es) X.env = (false, eval e X.env) :: starEach es X.env := by rfl) (hpl : (backTo pos (starEach es X.env)).any (·.1) = false := by rfl)
    (ht : eval (.Call (.Attribute o m apos) (e :: es) [] pos) X.env = (do
      let ov ← eval o X.env
      standAt apos.atName
      let (f, first) ← holding [ov] (getMethod ov m pl)
      callWith pos f first (backTo pos (starEach (e :: es) X.env)) (backToKw pos (keywordEach [] X.env))) := by rfl) :
    PE X (.Call (.Attribute o m apos) (e :: es) [] pos) (tMeth C m sp [] E0 ta t) := by
  obtain ⟨f, fd, ps, hc, hm, F, b⟩ := c.ex
  exact pe_meth (pl := pl) he hc hm F (hr.mono hk) b .nil pass0 ha hst hpl ht
theorem pe_m0' {pl : Sem Bool} (c : Mt X.prog X.w X.K X.mg X.base k C m sp) (hr : Room j X.A) (he : PE X o ta) (hk : k ≤ j := by decide)
    (ht : eval (.Call (.Attribute o m apos) [] [] pos) X.env = (do
      let ov ← eval o X.env
      standAt apos.atName
      let (f, first) ← holding [ov] (getMethod ov m pl)
      callWith pos f first (backTo pos (starEach [] X.env)) (backToKw pos (keywordEach [] X.env))) := by rfl) :
    PE X (.Call (.Attribute o m apos) [] [] pos) (tMeth C m sp [] E0 ta tNil) := by
  obtain ⟨f, fd, ps, hc, hm, F, b⟩ := c.ex
  exact pe_meth0 (pl := pl) he hc hm F (hr.mono hk) b .nil pass0 ht
/-- a module's written number -/
theorem pe_gi {y : Str} {i : Int} {u : Tok} {py : Pos} (hg : Gl X y) (hm : X.mg y = some (.int i u)) (hd : (y == ("__debug__" : Str)) = false := by decide) : PE X (.Name y py) (tC (.int i)) := pe_glob hg hm ⟨u, rfl⟩ hd
def tIsi (K : PySem.W.Frag) (te : TE) (T : String) : TE := fun σ H Q => te σ H fun x H1 => rIsi K [x, .ty T] H1 Q
/-- isinstance(e, C), C a built-in class -/
theorem pe_isi {T : String} {y : Str} {py : Pos} (hz : X.mg "isinstance" = none) (hy : X.mg y = none) (he : PE X e ta) (hv : bootBuiltins y = some (.type T) := by decide +kernel) (hg1 : Gl X "isinstance" := by rfl) (hg : Gl X y := by rfl) (hn : y ≠ "__name__" := by decide) (hd : (y == ("__debug__" : Str)) = false := by decide)
    (hs : starEach [e, .Name y py] X.env = (false, eval e X.env) :: starEach [.Name y py] X.env := by rfl) (hs2 : starEach [.Name y py] X.env = (false, eval (.Name y py) X.env) :: starEach [] X.env := by rfl) (hpl : (backTo pos (starEach [.Name y py] X.env)).any (·.1) = false := by rfl) :
    PE X (.Call (.Name "isinstance" p) [e, .Name y py] [] pos) (tIsi X.K ta T) :=
  show PE X (.Call (.Name "isinstance" p) [e, .Name y py] [] pos) (tCB (rIsi X.K) (tCons ta (tCons (tC (.ty T)) tNil))) from
  pe_callB call_isi hg1 hz (by decide +kernel) (pa_cons he (pa_cons (pe_bltn (v := .ty T) hg hy hv rfl hn hd) pa_nil hs2) hs) (by decide) (by decide) hs hpl
end
section
variable {K : PySem.W.Frag} {H : Hp} {Q : VK}
/-- isinstance of an int, a bool, a text, a list, a tuple: its reading -/
theorem isi_int_int (i : Int) (h : Q (.bl true) H) : rIsi K [.int i, .ty "int"] H Q := ⟨_, _, _, _, true, rfl, .ty _, .base (.int i), kit_ty (by decide +kernel), h⟩
theorem isi_int_bool (i : Int) (h : Q (.bl false) H) : rIsi K [.int i, .ty "bool"] H Q := ⟨_, _, _, _, false, rfl, .ty _, .base (.int i), kit_ty (by decide +kernel), h⟩
theorem isi_bl_bool (i : Bool) (h : Q (.bl true) H) : rIsi K [.bl i, .ty "bool"] H Q := ⟨_, _, _, _, true, rfl, .ty _, .base (.bl i), kit_ty (by decide +kernel), h⟩
theorem isi_str_str (x : Str) (h : Q (.bl true) H) : rIsi K [.str x, .ty "str"] H Q := ⟨_, _, _, _, true, rfl, .ty _, .base (.str x), kit_ty (by decide +kernel), h⟩
theorem isi_lst_list {a : Addr} {xs : List V} (e : H a = some (.lst xs)) (h : Q (.bl true) H) : rIsi K [.ref a, .ty "list"] H Q := ⟨_, _, _, _, true, rfl, .ty _, .base (.lst e), kit_ty (by decide +kernel), h⟩
theorem isi_tup_tuple {a : Addr} {xs : List V} (e : H a = some (.tup xs)) (h : Q (.bl true) H) : rIsi K [.ref a, .ty "tuple"] H Q := ⟨_, _, _, _, true, rfl, .ty _, .base (.tup e), kit_ty (by decide +kernel), h⟩
end
/-! ### data -/
theorem same_new {H : Hp} {p : Addr} {o : HO} (h : H p = none) : Same H (upd H p o) := fun b x e => by
  rw [upd_ne (ne_of_none e h)]
  exact e
def sgn (b : Bool) : Nat := if b then 49 else 48
/-- the text of these bits -/
def tx (bs : List Bool) : Str := ⟨(bs.map sgn).toArray⟩
theorem tx_len (bs : List Bool) : (tx bs).length = bs.length := by simp [tx, Str.length]
theorem tx_size (bs : List Bool) : (tx bs).cps.size = bs.length := by simp [tx]
theorem tx_at (bs : List Bool) (i : Nat) : (tx bs).cps[i]? = (bs[i]?).map sgn := by simp [tx]
def wds (bs : List Bool) : List Nat := (List.range (nw bs)).map fun j => wordOf (chunk bs j)
def hds (bs : List Bool) : List Nat := (List.range (nb bs + 1)).map fun j => rk bs (256 * j)
def vN (l : List Nat) : List V := l.map fun (n : Nat) => V.int (n : Int)
def vI (l : List Int) : List V := l.map V.int
def bF (t : Addr) (n : Nat) : List (Str × V) := putF "length" (.int n) (putF "kept" (.ref t) [])
def cF (t : Addr) (n : Nat) (h : Addr) : List (Str × V) := putF "heads" (.ref h) (putF "all_many" (.int n) (putF "kept" (.ref t) []))
def qF (b t c l : Addr) : List (Str × V) := putF "laid" (.ref l) (putF "counts" (.ref c) (putF "kept" (.ref t) (putF "bits" (.ref b) [])))
def wF (s : Str) (n : Nat) (c q : Addr) : List (Str × V) := putF "pairs" (.ref q) (putF "counts" (.ref c) (putF "knots" (.int n) (putF "signs" (.str s) [])))
abbrev cB (K : PySem.W.Frag) : Addr := He.ga K "Bits"
abbrev cC (K : PySem.W.Frag) : Addr := He.ga K "Counts"
abbrev cP (K : PySem.W.Frag) : Addr := He.ga K "Pairs"
abbrev cW (K : PySem.W.Frag) : Addr := He.ga K "Counted"
/-- a row of bits stands at a, its words at t -/
def BitsAt (K : PySem.W.Frag) (H : Hp) (a t : Addr) (bs : List Bool) : Prop := (∃ dx, H a = some (.ins (cB K) dx (bF t bs.length))) ∧ H t = some (.tup (vN (wds bs)))
/-- counts stand at a -/
def CntAt (K : PySem.W.Frag) (H : Hp) (a : Addr) (bs : List Bool) : Prop := ∃ dx t h, H a = some (.ins (cC K) dx (cF t bs.length h)) ∧ H t = some (.tup (vN (wds bs))) ∧ H h = some (.tup (vN (hds bs)))
/-- a table of heights stands at l -/
def TabAt (H : Hp) (l : Addr) (bs : List Bool) : Prop := ∃ rs : List Addr, H l = some (.tup (rs.map V.ref)) ∧ rs.length = (bs.length + 255) / 256 ∧ ∀ s r, rs[s]? = some r → ∃ b lo hi : Int, H r = some (.tup [.int b, .int lo, .int hi]) ∧
  ∀ i, 256 * s < i → i ≤ 256 * (s + 1) → i ≤ bs.length → lo ≤ ht bs i ∧ ht bs i ≤ hi
/-- pairs stand at a -/
def PairsAt (K : PySem.W.Frag) (H : Hp) (a : Addr) (bs : List Bool) : Prop := ∃ dx b t c l, H a = some (.ins (cP K) dx (qF b t c l)) ∧ BitsAt K H b t bs ∧ CntAt K H c bs ∧ TabAt H l bs
/-- a wood of n knots stands at a -/
def WoodAt (K : PySem.W.Frag) (H : Hp) (a : Addr) (n : Nat) (p : Nat → Nat) : Prop := ∃ dx c q, H a = some (.ins (cW K) dx (wF (tx (row n p)) n c q)) ∧ CntAt K H c (row n p) ∧ PairsAt K H q (prow n p)
section
variable {K : PySem.W.Frag} {H H' : Hp} {a t l : Addr} {bs : List Bool} (S : Same H H')
include S
theorem BitsAt.mono (h : BitsAt K H a t bs) : BitsAt K H' a t bs := let ⟨⟨dx, h1⟩, h2⟩ := h; ⟨⟨dx, S _ _ h1⟩, S _ _ h2⟩
theorem CntAt.mono (h : CntAt K H a bs) : CntAt K H' a bs := let ⟨dx, t, u, h1, h2, h3⟩ := h; ⟨dx, t, u, S _ _ h1, S _ _ h2, S _ _ h3⟩
theorem TabAt.mono (h : TabAt H l bs) : TabAt H' l bs := let ⟨rs, h1, h2, h3⟩ := h; ⟨rs, S _ _ h1, h2, fun s r e => let ⟨b, lo, hi, h4, h5⟩ := h3 s r e; ⟨b, lo, hi, S _ _ h4, h5⟩⟩
theorem PairsAt.mono (h : PairsAt K H a bs) : PairsAt K H' a bs := let ⟨dx, b, t, c, l, h1, h2, h3, h4⟩ := h; ⟨dx, b, t, c, l, S _ _ h1, h2.mono S, h3.mono S, h4.mono S⟩
theorem WoodAt.mono {n : Nat} {p : Nat → Nat} (h : WoodAt K H a n p) : WoodAt K H' a n p := let ⟨dx, c, q, h1, h2, h3⟩ := h; ⟨dx, c, q, S _ _ h1, h2.mono S, h3.mono S⟩
end
/-- all but p stands as it stood -/
def But (p : Addr) (H H' : Hp) : Prop := ∀ b o, H b = some o → b ≠ p → H' b = some o
abbrev Ret (v : V) (H : Hp) (Q : VK) : Prop := ∀ H', Same H H' → Q v H'
/-! ### promises -/
def spOnesIn : Sp := fun vs H Q _ => ∃ l : List Bool, vs = [.int (wordOf l : Nat)] ∧ l.length ≤ 32 ∧ Q (.int (l.count true : Nat)) H
def spNthOne : Sp := fun vs H Q _ => ∃ (l : List Bool) (k q : Nat), vs = [.int (wordOf l : Nat), .int (k : Nat)] ∧ l.length ≤ 32 ∧ l[q]? = some true ∧ (l.take q).count true = k ∧ Q (.int (q : Nat)) H
def spIsAmid : Sp := fun vs H Q _ => ∃ a b c : Int, vs = [.int a, .int b, .int c] ∧ b ≤ a ∧ a ≤ c ∧ Q (.bl true) H
def spWordsOf : Sp := fun vs H Q _ => ∃ bs : List Bool, vs = [.str (tx bs)] ∧ bs.length ≤ 20000 ∧ ∀ H' t, Same H H' → H' t = some (.tup (vN (wds bs))) → Q (.ref t) H'
def spBInit (K : PySem.W.Frag) : Sp := fun vs H Q _ => ∃ (p dx : Addr) (bs : List Bool), vs = [.ref p, .str (tx bs)] ∧ H p = some (.ins (cB K) dx []) ∧ bs.length ≤ 20000 ∧ ∀ H' t, BitsAt K H' p t bs → But p H H' → Q .non H'
def spBSize (K : PySem.W.Frag) : Sp := fun vs H Q _ => ∃ (a t : Addr) (bs : List Bool), vs = [.ref a] ∧ BitsAt K H a t bs ∧ Q (.int (bs.length : Nat)) H
def spBWords (K : PySem.W.Frag) : Sp := fun vs H Q _ => ∃ (a t : Addr) (bs : List Bool), vs = [.ref a] ∧ BitsAt K H a t bs ∧ Q (.ref t) H
def spBNeed : Sp := fun vs H Q _ => ∃ (x : V) (i m : Int), vs = [x, .int i, .int m] ∧ 0 ≤ i ∧ i ≤ m ∧ Q .non H
def spBAt (K : PySem.W.Frag) : Sp := fun vs H Q _ => ∃ (a t : Addr) (bs : List Bool) (i : Nat) (b : Bool), vs = [.ref a, .int (i : Nat)] ∧ BitsAt K H a t bs ∧ bs[i]? = some b ∧ Q (.int (b.toNat : Nat)) H
def spIsWhole : Sp := fun vs H Q _ => ∃ i : Int, vs = [.int i] ∧ Q (.bl true) H
def spNeedBit : Sp := fun vs H Q _ => ∃ b : Bool, vs = [.int (b.toNat : Nat)] ∧ Ret .non H Q
def spCInit (K : PySem.W.Frag) : Sp := fun vs H Q _ => ∃ (p dx b t : Addr) (bs : List Bool), vs = [.ref p, .ref b] ∧ H p = some (.ins (cC K) dx []) ∧ BitsAt K H b t bs ∧ bs.length ≤ 20000 ∧ ∀ H', CntAt K H' p bs → But p H H' → Q .non H'
def spOnesAhead (K : PySem.W.Frag) : Sp := fun vs H Q _ => ∃ (a : Addr) (bs : List Bool) (i : Nat), vs = [.ref a, .int (i : Nat)] ∧ CntAt K H a bs ∧ i ≤ bs.length ∧ Ret (.int (rk bs i : Nat)) H Q
def spAhead (K : PySem.W.Frag) : Sp := fun vs H Q _ => ∃ (a : Addr) (bs : List Bool) (b : Bool) (i : Nat), vs = [.ref a, .int (b.toNat : Nat), .int (i : Nat)] ∧ CntAt K H a bs ∧ i ≤ bs.length ∧ Ret (.int (if b then (rk bs i : Int) else (i : Int) - (rk bs i : Int))) H Q
def spLike (K : PySem.W.Frag) : Sp := fun vs H Q _ => ∃ (a : Addr) (bs : List Bool) (j : Nat), vs = [.ref a, .int (j : Nat), .int 0] ∧ CntAt K H a bs ∧ j < nw bs ∧ Q (.int (wordOf (lk bs j) : Nat)) H
def spLikeAhead (K : PySem.W.Frag) : Sp := fun vs H Q _ => ∃ (a : Addr) (bs : List Bool) (j : Nat), vs = [.ref a, .int 0, .int (j : Nat)] ∧ CntAt K H a bs ∧ j ≤ nb bs ∧ Q (.int (256 * (j : Int) - (rk bs (256 * j) : Int))) H
def spAllLike (K : PySem.W.Frag) : Sp := fun vs H Q _ => ∃ (a : Addr) (bs : List Bool), vs = [.ref a, .int 0] ∧ CntAt K H a bs ∧ Q (.int ((bs.length : Int) - (rk bs bs.length : Int))) H
def spBlockOf (K : PySem.W.Frag) : Sp := fun vs H Q _ => ∃ (a : Addr) (bs : List Bool) (m : Int) (q : Nat), vs = [.ref a, .int 0, .int m] ∧ CntAt K H a bs ∧ bs.length ≤ 20000 ∧ bs[q]? = some false ∧ (q : Int) - (rk bs q : Int) = m ∧ Ret (.int (q / 256 : Nat)) H Q
def spPlaceOf (K : PySem.W.Frag) : Sp := fun vs H Q _ => ∃ (a : Addr) (bs : List Bool) (m : Int) (q : Nat), vs = [.ref a, .int 0, .int m] ∧ CntAt K H a bs ∧ bs.length ≤ 20000 ∧ bs[q]? = some false ∧ (q : Int) - (rk bs q : Int) = m ∧ Ret (.int (q : Nat)) H Q
def spAskRow : Sp := fun vs H Q _ => ∃ bs : List Bool, vs = [.str (tx bs)] ∧ bs.length ≤ 8192 ∧ (∀ i, i ≤ bs.length → 0 ≤ ht bs i) ∧ ht bs bs.length = 0 ∧ Ret .non H Q
def spTableOf : Sp := fun vs H Q _ => ∃ bs : List Bool, vs = [.str (tx bs)] ∧ bs.length ≤ 8192 ∧ ∀ H' l, Same H H' → TabAt H' l bs → Q (.ref l) H'
def spPInit (K : PySem.W.Frag) : Sp := fun vs H Q _ => ∃ (p dx : Addr) (bs : List Bool), vs = [.ref p, .str (tx bs)] ∧ H p = some (.ins (cP K) dx []) ∧ bs.length ≤ 8192 ∧ (∀ i, i ≤ bs.length → 0 ≤ ht bs i) ∧ ht bs bs.length = 0 ∧ ∀ H', PairsAt K H' p bs → But p H H' → Q .non H'
def spPSize (K : PySem.W.Frag) : Sp := fun vs H Q _ => ∃ (a : Addr) (bs : List Bool), vs = [.ref a] ∧ PairsAt K H a bs ∧ Q (.int (bs.length : Nat)) H
def spHeight (K : PySem.W.Frag) : Sp := fun vs H Q _ => ∃ (a : Addr) (bs : List Bool) (i : Nat), vs = [.ref a, .int (i : Nat)] ∧ PairsAt K H a bs ∧ i ≤ bs.length ∧ Ret (.int (ht bs i)) H Q
def spStep (K : PySem.W.Frag) : Sp := fun vs H Q _ => ∃ (a : Addr) (bs : List Bool) (i : Nat), vs = [.ref a, .int (i : Nat)] ∧ PairsAt K H a bs ∧ i < bs.length ∧ Q (.int (ht bs (i + 1) - ht bs i)) H
def spFirstIn (K : PySem.W.Frag) : Sp := fun vs H Q _ => ∃ (a : Addr) (bs : List Bool) (lo hi : Nat) (h : Int), vs = [.ref a, .int (lo : Nat), .int (hi : Nat), .int h] ∧ PairsAt K H a bs ∧ bs.length ≤ 8192 ∧ 0 < lo ∧ lo ≤ bs.length + 1 ∧ hi ≤ bs.length ∧
  (∀ q : Nat, lo ≤ q → q ≤ hi → ht bs q = h → (∀ j, lo ≤ j → j < q → ht bs j ≠ h) → Ret (.int (q : Nat)) H Q) ∧ ((∀ q, lo ≤ q → q ≤ hi → ht bs q ≠ h) → Ret .non H Q)
def spLastIn (K : PySem.W.Frag) : Sp := fun vs H Q _ => ∃ (a : Addr) (bs : List Bool) (lo hi : Nat) (h : Int), vs = [.ref a, .int (lo : Nat), .int (hi : Nat), .int h] ∧ PairsAt K H a bs ∧ bs.length ≤ 8192 ∧ 0 < lo ∧ lo ≤ bs.length + 1 ∧ hi ≤ bs.length ∧
  (∀ q : Nat, lo ≤ q → q ≤ hi → ht bs q = h → (∀ j, q < j → j ≤ hi → ht bs j ≠ h) → Ret (.int (q : Nat)) H Q) ∧ ((∀ q, lo ≤ q → q ≤ hi → ht bs q ≠ h) → Ret .non H Q)
def spEndsOf (K : PySem.W.Frag) : Sp := fun vs H Q _ => ∃ (a : Addr) (bs : List Bool) (s : Nat), vs = [.ref a, .int (s : Nat)] ∧ PairsAt K H a bs ∧ s ≤ 1000 ∧ ∀ H' t, Same H H' → H' t = some (.tup [.int ((256 * s + 1 : Nat) : Int), .int ((min (256 * (s + 1)) bs.length : Nat) : Int)]) → Q (.ref t) H'
def spAskHeight (K : PySem.W.Frag) : Sp := fun vs H Q _ => ∃ (a : Addr) (bs : List Bool) (i : Nat) (h : Int), vs = [.ref a, .int (i : Nat), .int h] ∧ PairsAt K H a bs ∧ i ≤ bs.length ∧ Ret .non H Q
def spNextAt (K : PySem.W.Frag) : Sp := fun vs H Q _ => ∃ (a : Addr) (bs : List Bool) (i q : Nat) (h : Int), vs = [.ref a, .int (i : Nat), .int h] ∧ PairsAt K H a bs ∧ bs.length ≤ 8192 ∧ i < q ∧ q ≤ bs.length ∧ ht bs q = h ∧ (∀ j, i < j → j < q → ht bs j ≠ h) ∧ Ret (.int (q : Nat)) H Q
def spLastAt (K : PySem.W.Frag) : Sp := fun vs H Q _ => ∃ (a : Addr) (bs : List Bool) (i q : Nat) (h : Int), vs = [.ref a, .int (i : Nat), .int h] ∧ PairsAt K H a bs ∧ bs.length ≤ 8192 ∧ q < i ∧ i ≤ bs.length ∧ ht bs q = h ∧ (∀ j, q < j → j < i → ht bs j ≠ h) ∧ Ret (.int (q : Nat)) H Q
/-- q is the opening of the pair of place i -/
def OpenOf (bs : List Bool) (i q : Nat) : Prop := i < bs.length ∧ bs[q]? = some true ∧ ((i = q) ∨ (bs[i]? = some false ∧ q < i ∧ ht bs q = ht bs (i + 1) ∧ ∀ j, q < j → j < i + 1 → ht bs j ≠ ht bs (i + 1)))
def spOpeningOf (K : PySem.W.Frag) : Sp := fun vs H Q _ => ∃ (a : Addr) (bs : List Bool) (i q : Nat), vs = [.ref a, .int (i : Nat)] ∧ PairsAt K H a bs ∧ bs.length ≤ 8192 ∧ OpenOf bs i q ∧ Ret (.int (q : Nat)) H Q
def spPartner (K : PySem.W.Frag) : Sp := fun vs H Q _ => ∃ (a : Addr) (bs : List Bool) (i q : Nat), vs = [.ref a, .int (i : Nat)] ∧ PairsAt K H a bs ∧ bs.length ≤ 8192 ∧ OpenOf bs i q ∧
  ((i ≠ q ∧ Ret (.int (q : Nat)) H Q) ∨ (i = q ∧ ∃ r : Nat, q < r ∧ r ≤ bs.length ∧ ht bs r = ht bs q ∧ (∀ j, q < j → j < r → ht bs j ≠ ht bs q) ∧ Ret (.int ((r : Int) - 1)) H Q))
def spRound (K : PySem.W.Frag) : Sp := fun vs H Q _ => ∃ (a : Addr) (bs : List Bool) (i q r : Nat), vs = [.ref a, .int (i : Nat)] ∧ PairsAt K H a bs ∧ bs.length ≤ 8192 ∧ OpenOf bs i q ∧ ht bs q ≠ 0 ∧ r < q ∧ ht bs r = ht bs q - 1 ∧ (∀ j, r < j → j < q → ht bs j ≠ ht bs q - 1) ∧ Ret (.int (r : Nat)) H Q
/-! the wood -/
def spLookAt : Sp := fun vs H Q _ => ∃ (a : Addr) (es w : List Int), vs = [.ref a] ∧ H a = some (.lst (vI es)) ∧ Wd es w ∧ es.length ≤ 4000 ∧ ∀ H' l, Same H H' → H' l = some (.lst (vI es)) → Q (.ref l) H'
def spIsFromNought : Sp := fun vs H Q _ => ∃ i : Int, vs = [.int i] ∧ 0 ≤ i ∧ Q (.bl true) H
def spGroupsRow : Sp := fun vs H Q _ => ∃ (a : Addr) (gs : List Nat), vs = [.ref a] ∧ H a = some (.lst (vN gs)) ∧ gs.length ≤ 5000 ∧ (∀ g ∈ gs, g ≤ 5000) ∧ gs.sum ≤ 5000 ∧ Ret (.str (tx (gRow gs))) H Q
def spCountedRow : Sp := fun vs H Q _ => ∃ (a : Addr) (es w : List Int), vs = [.ref a] ∧ H a = some (.lst (vI es)) ∧ Wd es w ∧ es.length ≤ 4000 ∧ Ret (.str (tx (row es.length (pf es)))) H Q
def spWInit (K : PySem.W.Frag) : Sp := fun vs H Q _ => ∃ (p dx a : Addr) (es w : List Int), vs = [.ref p, .ref a] ∧ H p = some (.ins (cW K) dx []) ∧ H a = some (.lst (vI es)) ∧ Wd es w ∧ es.length ≤ 4000 ∧ ∀ H', WoodAt K H' p es.length (pf es) → But p H H' → Q .non H'
/-- n knots, hanging well -/
structure WdP (n : Nat) (p : Nat → Nat) : Prop where
  hp : ∀ k, k < n → p k ≤ k
  nc : ∀ k j, k < n → j < k → p k ≤ j → p k ≤ p j
  most : n ≤ 4000
def spWNeed (K : PySem.W.Frag) : Sp := fun vs H Q _ => ∃ (a : Addr) (n : Nat) (p : Nat → Nat) (k : Nat), vs = [.ref a, .int (k : Nat)] ∧ WoodAt K H a n p ∧ k < n ∧ Q .non H
/-- the group g: the knot's number is g - 1 -/
def spGroup (K : PySem.W.Frag) : Sp := fun vs H Q _ => ∃ (a : Addr) (n : Nat) (p : Nat → Nat) (g : Nat), vs = [.ref a, .int ((g : Int) - 1)] ∧ WoodAt K H a n p ∧ WdP n p ∧ g ≤ n ∧ ∀ H' t, Same H H' → H' t = some (.tup [.int (low n p g : Nat), .int ((low n p (g + 1) : Int) - 1)]) → Q (.ref t) H'
def spSignOf (K : PySem.W.Frag) : Sp := fun vs H Q _ => ∃ (a : Addr) (n : Nat) (p : Nat → Nat) (k : Nat), vs = [.ref a, .int (k : Nat)] ∧ WoodAt K H a n p ∧ WdP n p ∧ k < n ∧ Ret (.int ((sg n p k : Int) - 1)) H Q
def spOver (K : PySem.W.Frag) : Sp := fun vs H Q _ => ∃ (a : Addr) (n : Nat) (p : Nat → Nat) (k : Nat), vs = [.ref a, .int (k : Nat)] ∧ WoodAt K H a n p ∧ WdP n p ∧ k < n ∧ Ret (.int ((p k : Int) - 1)) H Q
def spRowW (K : PySem.W.Frag) : Sp := fun vs H Q _ => ∃ (a : Addr) (n : Nat) (p : Nat → Nat), vs = [.ref a] ∧ WoodAt K H a n p ∧ Q (.str (tx (row n p))) H
def spChildPlace (K : PySem.W.Frag) : Sp := fun vs H Q _ => ∃ (a : Addr) (n : Nat) (p : Nat → Nat) (k : Nat), vs = [.ref a, .int (k : Nat)] ∧ WoodAt K H a n p ∧ WdP n p ∧ k < n ∧ Ret (.int (ct p k : Nat)) H Q
def spStretch (K : PySem.W.Frag) : Sp := fun vs H Q _ => ∃ (a : Addr) (n : Nat) (p : Nat → Nat) (k b : Nat), vs = [.ref a, .int (k : Nat)] ∧ WoodAt K H a n p ∧ WdP n p ∧ k < n ∧ IsB n p k b ∧ ∀ H' t, Same H H' → H' t = some (.tup [.int (low n p (k + 1) : Nat), .int (low n p (b + 1) : Nat)]) → Q (.ref t) H'
def spBehind (K : PySem.W.Frag) : Sp := fun vs H Q _ => ∃ (a : Addr) (n : Nat) (p : Nat → Nat) (k b : Nat), vs = [.ref a, .int (k : Nat)] ∧ WoodAt K H a n p ∧ WdP n p ∧ k < n ∧ IsB n p k b ∧ Ret (.int (b : Nat)) H Q
def spLies (K : PySem.W.Frag) : Sp := fun vs H Q _ => ∃ (a : Addr) (n : Nat) (p : Nat → Nat) (k o b : Nat), vs = [.ref a, .int (k : Nat), .int (o : Nat)] ∧ WoodAt K H a n p ∧ WdP n p ∧ k < n ∧ o < n ∧ IsB n p o b ∧ Ret (.bl (decide (o ≤ k ∧ k < b))) H Q
end TW
/-! Fl: what stands in the fields (printed by gen_fl.py). -/
namespace TW
open PySem PySem.Spec PyProof.Rows L2
theorem putF_len {f : Str} {v : V} : ∀ fs : List (Str × V), (putF f v fs).length ≤ fs.length + 1
  | [] => Nat.le_refl _
  | (g, x) :: r => by
    have ih := putF_len (f := f) (v := v) r
    unfold putF
    split <;> simp <;> omega
theorem few0 : ([] : List (Str × V)).length < 1000 := by decide
theorem few1 {a : Str} {x : V} : (putF a x []).length < 1000 := by have := putF_len (f := a) (v := x) []; simp at this; omega
theorem few2 {a b : Str} {x y : V} : (putF a x (putF b y [])).length < 1000 := by
  have h1 := putF_len (f := b) (v := y) []
  have h2 := putF_len (f := a) (v := x) (putF b y [])
  simp at h1; omega
theorem few3 {a b c : Str} {x y z : V} : (putF a x (putF b y (putF c z []))).length < 1000 := by
  have h1 := putF_len (f := c) (v := z) []
  have h2 := putF_len (f := b) (v := y) (putF c z [])
  have h3 := putF_len (f := a) (v := x) (putF b y (putF c z []))
  simp at h1; omega
theorem bF_kept (t : Addr) (n : Nat) : (bF t n).lookup ("kept" : Str) = some (.ref t) := by
  unfold bF
  rw [lookup_putF, if_neg (by decide +kernel), lookup_putF, if_pos rfl]
theorem bF_length (t : Addr) (n : Nat) : (bF t n).lookup ("length" : Str) = some (.int n) := by
  unfold bF
  rw [lookup_putF, if_pos rfl]
theorem bF_no {t : Addr} {n : Nat} {m : Str} (h0 : ¬ m = "kept") (h1 : ¬ m = "length") : (bF t n).lookup m = none := by
  unfold bF
  rw [lookup_putF, if_neg h1, lookup_putF, if_neg h0]
  rfl
theorem cF_kept (t : Addr) (n : Nat) (h : Addr) : (cF t n h).lookup ("kept" : Str) = some (.ref t) := by
  unfold cF
  rw [lookup_putF, if_neg (by decide +kernel), lookup_putF, if_neg (by decide +kernel), lookup_putF, if_pos rfl]
theorem cF_all_many (t : Addr) (n : Nat) (h : Addr) : (cF t n h).lookup ("all_many" : Str) = some (.int n) := by
  unfold cF
  rw [lookup_putF, if_neg (by decide +kernel), lookup_putF, if_pos rfl]
theorem cF_heads (t : Addr) (n : Nat) (h : Addr) : (cF t n h).lookup ("heads" : Str) = some (.ref h) := by
  unfold cF
  rw [lookup_putF, if_pos rfl]
theorem cF_no {t : Addr} {n : Nat} {h : Addr} {m : Str} (h0 : ¬ m = "kept") (h1 : ¬ m = "all_many") (h2 : ¬ m = "heads") : (cF t n h).lookup m = none := by
  unfold cF
  rw [lookup_putF, if_neg h2, lookup_putF, if_neg h1, lookup_putF, if_neg h0]
  rfl
theorem qF_bits (b t c l : Addr) : (qF b t c l).lookup ("bits" : Str) = some (.ref b) := by
  unfold qF
  rw [lookup_putF, if_neg (by decide +kernel), lookup_putF, if_neg (by decide +kernel), lookup_putF, if_neg (by decide +kernel), lookup_putF, if_pos rfl]
theorem qF_kept (b t c l : Addr) : (qF b t c l).lookup ("kept" : Str) = some (.ref t) := by
  unfold qF
  rw [lookup_putF, if_neg (by decide +kernel), lookup_putF, if_neg (by decide +kernel), lookup_putF, if_pos rfl]
theorem qF_counts (b t c l : Addr) : (qF b t c l).lookup ("counts" : Str) = some (.ref c) := by
  unfold qF
  rw [lookup_putF, if_neg (by decide +kernel), lookup_putF, if_pos rfl]
theorem qF_laid (b t c l : Addr) : (qF b t c l).lookup ("laid" : Str) = some (.ref l) := by
  unfold qF
  rw [lookup_putF, if_pos rfl]
theorem qF_no {b t c l : Addr} {m : Str} (h0 : ¬ m = "bits") (h1 : ¬ m = "kept") (h2 : ¬ m = "counts") (h3 : ¬ m = "laid") : (qF b t c l).lookup m = none := by
  unfold qF
  rw [lookup_putF, if_neg h3, lookup_putF, if_neg h2, lookup_putF, if_neg h1, lookup_putF, if_neg h0]
  rfl
theorem wF_signs (s : Str) (n : Nat) (c q : Addr) : (wF s n c q).lookup ("signs" : Str) = some (.str s) := by
  unfold wF
  rw [lookup_putF, if_neg (by decide +kernel), lookup_putF, if_neg (by decide +kernel), lookup_putF, if_neg (by decide +kernel), lookup_putF, if_pos rfl]
theorem wF_knots (s : Str) (n : Nat) (c q : Addr) : (wF s n c q).lookup ("knots" : Str) = some (.int n) := by
  unfold wF
  rw [lookup_putF, if_neg (by decide +kernel), lookup_putF, if_neg (by decide +kernel), lookup_putF, if_pos rfl]
theorem wF_counts (s : Str) (n : Nat) (c q : Addr) : (wF s n c q).lookup ("counts" : Str) = some (.ref c) := by
  unfold wF
  rw [lookup_putF, if_neg (by decide +kernel), lookup_putF, if_pos rfl]
theorem wF_pairs (s : Str) (n : Nat) (c q : Addr) : (wF s n c q).lookup ("pairs" : Str) = some (.ref q) := by
  unfold wF
  rw [lookup_putF, if_pos rfl]
theorem wF_no {s : Str} {n : Nat} {c q : Addr} {m : Str} (h0 : ¬ m = "signs") (h1 : ¬ m = "knots") (h2 : ¬ m = "counts") (h3 : ¬ m = "pairs") : (wF s n c q).lookup m = none := by
  unfold wF
  rw [lookup_putF, if_neg h3, lookup_putF, if_neg h2, lookup_putF, if_neg h1, lookup_putF, if_neg h0]
  rfl
end TW
/-! Lm: lemmas that join the walks with the plain laws. -/
namespace TW
open PySem PySem.Spec PyProof.Rows L2
theorem iteDT {c A B : Prop} [Decidable c] (hc : c) (h : A) : if decide c = true then A else B := by
  rw [decide_eq_true hc]
  exact iteT h
theorem iteDF {c A B : Prop} [Decidable c] (hc : ¬ c) (h : B) : if decide c = true then A else B := by
  rw [decide_eq_false hc]
  exact iteF h
theorem iteNT {c A B : Prop} [Decidable c] (hc : ¬ c) (h : A) : if (!decide c) = true then A else B := by
  rw [decide_eq_false hc]
  exact iteT h
theorem blT {c : Prop} [Decidable c] {Q : VK} {H : Hp} (hc : c) (h : Q (.bl true) H) : Q (.bl (decide c)) H := by
  rw [decide_eq_true hc]
  exact h
theorem blF {c : Prop} [Decidable c] {Q : VK} {H : Hp} (hc : ¬ c) (h : Q (.bl false) H) : Q (.bl (decide c)) H := by
  rw [decide_eq_false hc]
  exact h
theorem intE {i j : Int} {Q : VK} {H : Hp} (e : i = j) (h : Q (.int j) H) : Q (.int i) H := by
  rw [e]
  exact h
theorem tyes {te : TE} {σ : L2.St} {H : Hp} {R : V → Hp → Prop} {Z : Hp → Prop} (h : te σ H R) : tYes σ H fun b H3 => if b = true then te σ H3 R else Z H3 := by
  unfold tYes
  show (if true = true then te σ H R else Z H)
  rw [if_pos rfl]
  exact h
theorem band (a b : Nat) : Builtin.bitAnd (a : Int) (b : Int) = ((a &&& b : Nat) : Int) := by
  rw [bitAnd_pp (by omega) (by omega), Int.toNat_natCast, Int.toNat_natCast]
theorem shr (a : Nat) (j : Nat) : (a : Int) / 2 ^ j = ((a >>> j : Nat) : Int) := by
  rw [Nat.shiftRight_eq_div_pow]
  exact_mod_cast (Int.natCast_ediv a (2 ^ j)).symm
theorem shr' (a j : Nat) (i : Int) (h : i = (j : Int)) : (a : Int) / 2 ^ i.toNat = ((a >>> j : Nat) : Int) := by
  subst h
  rw [Int.toNat_natCast, shr]
theorem sub_mask (w m : Nat) : (w : Int) - (((w >>> 1) &&& m : Nat) : Int) = ((w - ((w >>> 1) &&& m) : Nat) : Int) := by
  have h1 : (w >>> 1) &&& m ≤ w >>> 1 := Nat.and_le_left
  have h2 : w >>> 1 ≤ w := by rw [Nat.shiftRight_eq_div_pow]; exact Nat.div_le_self _ _
  omega
theorem onesI (w : Nat) (a b c d : Int) (ha : a = (w : Int) - Builtin.bitAnd ((w : Int) / 2 ^ (1 : Int).toNat) 1431655765)
    (hb : b = Builtin.bitAnd a 858993459 + Builtin.bitAnd (a / 2 ^ (2 : Int).toNat) 858993459)
    (hc : c = Builtin.bitAnd b 252645135 + Builtin.bitAnd (b / 2 ^ (4 : Int).toNat) 252645135)
    (hd : d = Builtin.bitAnd c 16711935 + Builtin.bitAnd (c / 2 ^ (8 : Int).toNat) 16711935) :
    Builtin.bitAnd d 65535 + d / 2 ^ (16 : Int).toNat = (onesN w : Int) := by
  have e1 : ∀ x : Nat, Builtin.bitAnd (x : Int) 858993459 = ((x &&& 858993459 : Nat) : Int) := fun x => band x 858993459
  have e2 : ∀ x : Nat, Builtin.bitAnd (x : Int) 252645135 = ((x &&& 252645135 : Nat) : Int) := fun x => band x 252645135
  have e3 : ∀ x : Nat, Builtin.bitAnd (x : Int) 16711935 = ((x &&& 16711935 : Nat) : Int) := fun x => band x 16711935
  have e4 : ∀ x : Nat, Builtin.bitAnd (x : Int) 65535 = ((x &&& 65535 : Nat) : Int) := fun x => band x 65535
  have e0 : ∀ x : Nat, Builtin.bitAnd (x : Int) 1431655765 = ((x &&& 1431655765 : Nat) : Int) := fun x => band x 1431655765
  rw [shr' w 1 1 rfl, e0, sub_mask] at ha
  subst ha
  rw [shr' _ 2 2 rfl, e1, e1, ← Int.natCast_add] at hb
  subst hb
  rw [shr' _ 4 4 rfl, e2, e2, ← Int.natCast_add] at hc
  subst hc
  rw [shr' _ 8 8 rfl, e3, e3, ← Int.natCast_add] at hd
  subst hd
  rw [shr' _ 16 16 rfl, e4, ← Int.natCast_add]
  rfl
/-! ### ranges, slices, signs -/
theorem rgc_up {n c : Nat} (hn : n ≤ 100000) (hc : 1 ≤ c) (hc2 : c ≤ 1000) : RgC 0 (n : Int) (c : Int) ((n + c - 1) / c) := by
  have e : Builtin.Range.rangeSize 0 (n : Int) (c : Int) = (((n + c - 1) / c : Nat) : Int) := by
    rw [PyProof.Rows.rangeSize_pos (by omega) (by omega)]
    have e1 : (n : Int) + (c : Int) - 1 = ((n + c - 1 : Nat) : Int) := by omega
    rw [e1]
    exact (Int.natCast_ediv _ _).symm
  have hle : (n + c - 1) / c ≤ n + c := Nat.le_trans (Nat.div_le_self _ _) (by omega)
  refine ⟨by omega, by omega, ?_, e⟩
  unfold Builtin.Range.small
  rw [e]
  generalize (n + c - 1) / c = d at hle
  simp only [Builtin.Range.rangeFitsLong, Bool.and_eq_true, Bool.or_eq_true, decide_eq_true_eq, beq_iff_eq, show ((c : Int) > 0) by omega, if_true]
  omega
theorem cut_nat {α : Type} (l : List α) {i m : Nat} : (l.drop (min i l.length)).take (min (i + m) l.length - min i l.length) = (l.drop i).take m := by
  by_cases h : i ≤ l.length
  · rw [Nat.min_eq_left h]
    by_cases h2 : i + m ≤ l.length
    · rw [Nat.min_eq_left h2, Nat.add_sub_cancel_left]
    · rw [Nat.min_eq_right (by omega), List.take_of_length_le (by simp), List.take_of_length_le (by simp; omega)]
  · rw [Nat.min_eq_right (by omega), Nat.min_eq_right (by omega), List.drop_eq_nil_of_le (Nat.le_refl _), List.drop_eq_nil_of_le (by omega)]
    simp
theorem cut_tx (bs : List Bool) {i m : Nat} {a b : Int} (ha : a = (i : Int)) (hb : b = ((i + m : Nat) : Int)) : cutS (tx bs) (some a) (some b) = tx ((bs.drop i).take m) := by
  subst ha hb
  unfold cutS
  rw [HT.sIx_nat, HT.sIx_nat, tx_len]
  have e : (tx bs).cps.toList = bs.map sgn := by simp [tx]
  rw [e]
  have e2 := cut_nat (bs.map sgn) (i := i) (m := m)
  rw [List.length_map] at e2
  rw [e2, ← List.map_drop, ← List.map_take]
  rfl
theorem cutV_nat (xs : List V) {i m : Nat} {a b : Int} (ha : a = (i : Int)) (hb : b = ((i + m : Nat) : Int)) : cutV xs (some a) (some b) = (xs.drop i).take m := by
  subst ha hb
  unfold cutV
  rw [HT.sIx_nat, HT.sIx_nat]
  exact cut_nat xs
theorem str1 : (⟨#[49]⟩ : Str) = "1" := by decide +kernel
theorem str0 : ¬ (⟨#[48]⟩ : Str) = "1" := by decide +kernel
theorem word_or (l : List Bool) : Builtin.bitOr (wordOf l : Int) (1 * 2 ^ ((l.length : Nat) : Int).toNat) = (wordOf (l ++ [true]) : Int) := by
  rw [Int.toNat_natCast, Bits.bitOr_join (by omega) (by exact_mod_cast wordOf_lt l) (by decide), wordOf_snoc]
  simp
theorem take_sign {l : List Bool} {i : Nat} {c : Nat} (h : (tx l).cps[i]? = some c) : ∃ b, l[i]? = some b ∧ c = sgn b ∧ l.take (i + 1) = l.take i ++ [b] := by
  rw [tx_at] at h
  cases e : l[i]? with
  | none =>
    rw [e] at h
    cases h
  | some b =>
    rw [e] at h
    exact ⟨b, rfl, (Option.some.inj h).symm, by rw [List.take_add_one, e]; rfl⟩
theorem sl_20 {n : Nat} (h : n ≤ 20001) : n ≤ sizeLine := Nat.le_trans h (by decide)
theorem sl_20' {n : Nat} (h : n ≤ 20001) : n < sizeLine := Nat.lt_of_le_of_lt h (by decide)
theorem Same.putNew {H H1 H2 : Hp} {p : Addr} {o : HO} (s : Same H H1) (n : H p = none) (h : ∀ b x, H1 b = some x → b ≠ p → H2 b = some x) : Same H H2 := fun b x e => by
  have nb : b ≠ p := ne_of_none e n
  exact h b x (s b x e) nb
theorem chunk_len (bs : List Bool) (j : Nat) : (chunk bs j).length ≤ 32 := by simp [chunk]; omega
theorem fdivN (i c : Nat) : Int.fdiv (i : Int) (c : Int) = ((i / c : Nat) : Int) := by
  rw [Int.fdiv_eq_ediv_of_nonneg _ (by omega)]
  exact (Int.natCast_ediv _ _).symm
theorem fmodN (i c : Nat) : Int.fmod (i : Int) (c : Int) = ((i % c : Nat) : Int) := by
  rw [Int.fmod_eq_emod_of_nonneg _ (by omega)]
  exact (Int.natCast_emod _ _).symm
theorem wds_at {bs : List Bool} {j : Nat} (h : j < nw bs) : (vN (wds bs))[j]? = some (.int (wordOf (chunk bs j) : Nat)) := by
  unfold vN wds
  rw [List.getElem?_map, List.getElem?_map, List.getElem?_range h]
  rfl
theorem wds_len (bs : List Bool) : (vN (wds bs)).length = nw bs := by simp [vN, wds]
theorem hds_at {bs : List Bool} {j : Nat} (h : j ≤ nb bs) : (vN (hds bs))[j]? = some (.int (rk bs (256 * j) : Nat)) := by
  unfold vN hds
  rw [List.getElem?_map, List.getElem?_map, List.getElem?_range (by omega)]
  rfl
theorem hds_len (bs : List Bool) : (vN (hds bs)).length = nb bs + 1 := by simp [vN, hds]
theorem chunk_at (bs : List Bool) (i : Nat) : (chunk bs (i / 32))[i % 32]? = bs[i]? := by
  unfold chunk
  rw [List.getElem?_take_of_lt (Nat.mod_lt _ (by decide)), List.getElem?_drop]
  congr 1
  omega
theorem nw_gt {bs : List Bool} {i : Nat} (h : i < bs.length) : i / 32 < nw bs := by
  unfold nw
  omega
/-- a tuple's stretch, its own object or a new one -/
theorem slA {K : PySem.W.Frag} {H : Hp} {Q : VK} {a : Addr} {xs : List V} {lo hi : Option Int} (h : H a = some (.tup xs)) (q : ∀ b H', Same H H' → H' b = some (.tup (cutV xs lo hi)) → Q (.ref b) H') : rSlA K (.ref a) lo hi H Q := by
  refine ⟨a, xs, rfl, SqT.of h, fun w => q a H (Same.refl H) ?_, fun _ p np => q p _ (same_new np) upd_same⟩
  rw [h]
  unfold cutV
  rw [w.1, w.2, List.drop_zero, Nat.sub_zero, List.take_length]
theorem wds_cut (bs : List Bool) (a m : Nat) : ((vN (wds bs)).drop a).take m = (cls bs a m).map fun l => V.int (wordOf l : Nat) := by
  unfold vN wds cls
  rw [List.map_map, ← List.map_drop, ← List.map_take, List.map_map]
  rfl
/-- the sum of ones of the words in a tuple: the comprehension's reading -/
theorem sum_vI (l : List (List Bool)) : (l.map fun c => ((c.count true : Nat) : Int)).sum = (((l.map fun c => c.count true).sum : Nat) : Int) := by
  induction l with
  | nil => rfl
  | cons c r ih =>
    simp only [List.map_cons, List.sum_cons, ih]
    omega
theorem lc_ones {K : PySem.W.Frag} {a : Addr} {ls : List (List Bool)} {i : Nat} {σ : L2.St} {H1 : Hp} {D : Addr} {Qd : Hp → Prop} (h1 : H1 a = some (.tup (ls.map fun l => V.int (wordOf l : Nat)))) (hl : ∀ l ∈ ls, l.length ≤ 32) (hz : ls.length < sizeLine) (nD : H1 D = none)
    (hi : ∀ x, ((wipe σ [i]).set i (some x))[i]? = some (some x)) (hw : ∀ x, wipe ((wipe σ [i]).set i (some x)) [i] = wipe σ [i])
    (hd : ∀ H', Same H1 H' → H' D = some (.lst ((ls.map fun l => ((l.count true : Nat) : Int)).map V.int)) → Qd H') :
    ∃ W : Nat → Nat → Hp → Prop, (∃ m, W 0 m (upd H1 D (.lst []))) ∧ ∀ k m H, W k m H →
      ((Itt K a).stop k H ∧ Qd H) ∨ ((Itt K a).go k H ∧ ∃ Nx : Hp → Prop, (∀ H', Nx H' → ∃ m', m' < m ∧ W (k + 1) m' H') ∧ ∀ x H', (Itt K a).yld k H x H' → gName i x (wipe σ [i]) H' fun σ2 H2 => wipe σ2 [i] = wipe σ [i] ∧ tYes σ2 H2 fun b H3 =>
        if b = true then (tCall spOnesIn [] E0 (tCons (tVar i) tNil)) σ2 H3 fun y H4 => ∃ acc, H4 D = some (.lst acc) ∧ acc.length < sizeLine ∧ Nx (upd H4 D (.lst (acc ++ [y]))) else Nx H3) := by
  refine lc_tup (K := K) (a := a) (xs := ls.map fun l => V.int (wordOf l : Nat)) (fun k H' => Same H1 H' ∧ H' D = some (.lst (((ls.take k).map fun l => ((l.count true : Nat) : Int)).map V.int))) ⟨same_new nD, by rw [upd_same]; rfl⟩ (fun k H' _ p => SqT.of (p.1 _ _ h1)) ?_ ?_
  · rintro k x H2 hx ⟨s1, hD⟩
    rw [List.getElem?_map] at hx
    cases e : ls[k]? with
    | none =>
      rw [e] at hx
      cases hx
    | some l =>
      rw [e] at hx
      have ex : V.int (wordOf l : Nat) = x := Option.some.inj hx
      subst ex
      refine ⟨hw _, tyes ⟨_, hi _, l, rfl, hl l (List.mem_of_getElem? e), _, hD, ?_, ?_, ?_⟩⟩
      · have : k < ls.length := (List.getElem?_eq_some_iff.mp e).1
        simp only [List.length_map, List.length_take]
        omega
      · intro b o eb
        rw [upd_ne (ne_of_none eb nD)]
        exact s1 _ _ eb
      · rw [upd_same, List.take_add_one, e]
        simp
  · rintro H2 ⟨s1, hD⟩
    rw [List.length_map, List.take_of_length_le (Nat.le_refl _)] at hD
    exact hd _ s1 hD
end TW
/-! U1: walks (joined by mk.py). -/
namespace TW
open PySem PySem.Spec PyProof.Rows L2
section
variable {P : Program} {w : World} {K : PySem.W.Frag} {mg : Str → Option Value} {base : Heap}

theorem sc_OnesIn : FnScope ["word"] ["word"] (defScope sOnesIn) := ⟨rfl, rfl, rfl, by decide +kernel, rfl, by decide +kernel, by decide +kernel⟩
theorem ok_OnesIn (T : Txt K mg)  : Cl P w K mg base 1 "ones_in" spOnesIn := by
  refine cl_of T.g_ones_in (fn_ok (N := ["word"]) T.f_OnesIn sc_OnesIn (fun vs H Q E h => ?_) (fun _ _ _ _ _ _ us hl => match us, hl with | [_], _ => rfl) (fun cdv A outer s H vs Q E hr h => ?_))
  · obtain ⟨l, rfl, _⟩ := h
    rfl
  · obtain ⟨l, rfl, hl, k⟩ := h
    refine ⟨_, (pss_cons (ps_set (i := 0) sc_OnesIn.nd rfl (Or.inl rfl) (pe_op op_sub (pv 0) (pe_op op_and (pe_op op_shr (pv 0) pe_int) pe_int)))
      (pss_cons (ps_set (i := 0) sc_OnesIn.nd rfl (Or.inl rfl) (pe_op op_add (pe_op op_and (pv 0) pe_int) (pe_op op_and (pe_op op_shr (pv 0) pe_int) pe_int)))
      (pss_cons (ps_set (i := 0) sc_OnesIn.nd rfl (Or.inl rfl) (pe_op op_add (pe_op op_and (pv 0) pe_int) (pe_op op_and (pe_op op_shr (pv 0) pe_int) pe_int)))
      (pss_cons (ps_set (i := 0) sc_OnesIn.nd rfl (Or.inl rfl) (pe_op op_add (pe_op op_and (pv 0) pe_int) (pe_op op_and (pe_op op_shr (pv 0) pe_int) pe_int)))
      (pss_one (ps_ret (pe_op op_add (pe_op op_and (pv 0) pe_int) (pe_op op_shr (pv 0) pe_int)))))))), ?_⟩
    refine ⟨_, rfl, _, rfl, _, _, rfl, rfl, (by show (0 : Int) ≤ 1; decide), _, _, rfl, rfl, _, _, rfl, rfl, ?_⟩
    refine ⟨_, rfl, _, _, rfl, rfl, _, rfl, _, _, rfl, rfl, (by show (0 : Int) ≤ 2; decide), _, _, rfl, rfl, _, _, rfl, rfl, ?_⟩
    refine ⟨_, rfl, _, _, rfl, rfl, _, rfl, _, _, rfl, rfl, (by show (0 : Int) ≤ 4; decide), _, _, rfl, rfl, _, _, rfl, rfl, ?_⟩
    refine ⟨_, rfl, _, _, rfl, rfl, _, rfl, _, _, rfl, rfl, (by show (0 : Int) ≤ 8; decide), _, _, rfl, rfl, _, _, rfl, rfl, ?_⟩
    refine ⟨_, rfl, _, _, rfl, rfl, _, rfl, _, _, rfl, rfl, (by show (0 : Int) ≤ 16; decide), _, _, rfl, rfl, ?_⟩
    have e := onesI (wordOf l) _ _ _ _ rfl rfl rfl rfl
    rw [ones_ok l hl] at e
    rw [← e] at k
    exact k
theorem sc_NthOne : FnScope ["word", "nth", "turn", "place"] ["word", "nth"] (defScope sNthOne) := ⟨rfl, rfl, rfl, by decide +kernel, rfl, by decide +kernel, by decide +kernel⟩
theorem ok_NthOne (T : Txt K mg) (cOnesIn : Cl P w K mg base 1 "ones_in" spOnesIn) : Cl P w K mg base 2 "nth_one" spNthOne := by
  refine cl_of T.g_nth_one (fn_ok (N := ["word", "nth", "turn", "place"]) T.f_NthOne sc_NthOne (fun vs H Q E h => ?_) (fun _ _ _ _ _ _ us hl => match us, hl with | [_, _], _ => rfl) (fun cdv A outer s H vs Q E hr h => ?_))
  · obtain ⟨l, k, q, rfl, _⟩ := h
    rfl
  · obtain ⟨l, k, q, rfl, hl, hq, hk, kk⟩ := h
    refine ⟨_, (pss_cons (ps_if (pt_cmpR op_le (pe_c cOnesIn hr (pa_cons (pv 0) pa_nil)) (pv 1) (nomark _))
      (pss_one (ps_ret pe_non))
      pss_nil)
      (pss_cons (ps_for PassesOwn.never rfl (pi_range1 (by rfl) T.z_range (pa_cons (pv 1) pa_nil)) (pg_name (i := 2) sc_NthOne.nd rfl (Or.inl rfl))
      (pss_one (ps_set (i := 0) sc_NthOne.nd rfl (Or.inl rfl) (pe_op op_and (pv 0) (pe_op op_sub (pv 0) pe_int)))))
      (pss_cons (ps_set (i := 3) sc_NthOne.nd rfl (Or.inl rfl) pe_int)
      (pss_cons (ps_while PassesOwn.never (pt_cmpR op_eq (pe_op op_and (pe_op op_shr (pv 0) (pv 3)) pe_int) pe_int (nomark _))
      (pss_one (ps_aug (i := 3) sc_NthOne.nd rfl (Or.inl rfl) pe_int ip_add)))
      (pss_one (ps_ret (pv 3))))))), ?_⟩
    have hc : ¬ ((l.count true : Int) ≤ (k : Int)) := by
      have h1 := (l.take q).count true
      have h2 : l.count true = (l.take q).count true + (l.drop q).count true := by rw [← List.count_append, List.take_append_drop]
      have h3 : 0 < (l.drop q).count true := by
        rw [List.count_pos_iff]
        have : (l.drop q)[0]? = some true := by rw [List.getElem?_drop]; simpa using hq
        exact List.mem_of_getElem? this
      omega
    have ql : q < l.length := (List.getElem?_eq_some_iff.mp hq).1
    obtain ⟨cq, cj⟩ := clr_at l k q hq hk
    refine ⟨_, rfl, l, rfl, hl, _, rfl, _, _, rfl, rfl, _, rfl, iteDF hc ?_⟩
    have kl : k ≤ l.length := by
      rw [← hk]
      exact Nat.le_trans List.count_le_length (by simp; omega)
    refine ⟨_, rfl, _, rfl, by omega, by omega, for_range (lo := 0) (n := ((k : Nat) : Int).toNat) (fun i σ H1 => H1 = H ∧ i ≤ k ∧ ∃ v, σ = [some (.int (wordOf (clr i l) : Nat)), some (.int (k : Nat)), v, none]) ⟨rfl, Nat.zero_le _, none, by rw [clr_zero]; rfl⟩ ?_ ?_⟩
    · rintro i σ H1 hi ⟨rfl, hik, v, rfl⟩
      have hi' : i < k := by omega
      have cp : 0 < (clr i l).count true := by rw [clr_count]; omega
      obtain ⟨w1, w2⟩ := wordOf_clr1 (clr i l) cp
      refine ⟨_, rfl, _, rfl, _, _, rfl, rfl, _, _, rfl, rfl, ?_⟩
      refine ⟨rfl, hi', some (.int (0 + (i : Int))), ?_⟩
      show [some (V.int (Builtin.bitAnd (wordOf (clr i l) : Int) ((wordOf (clr i l) : Int) - 1))), _, _, _] = _
      rw [show (wordOf (clr i l) : Int) - 1 = ((wordOf (clr i l) - 1 : Nat) : Int) by omega, band, w1, clr_clr]
    · rintro σ H1 ⟨rfl, _, v, rfl⟩
      have ek : ((k : Nat) : Int).toNat = k := by omega
      rw [ek]
      refine ⟨fun m σ H2 => ∃ j : Nat, H2 = H1 ∧ j ≤ q ∧ m = q - j ∧ σ = [some (.int (wordOf (clr k l) : Nat)), some (.int (k : Nat)), v, some (.int (j : Nat))], ⟨q, 0, rfl, Nat.zero_le _, rfl, rfl⟩, ?_⟩
      rintro m σ H2 ⟨j, rfl, hj, rfl, rfl⟩
      refine ⟨_, rfl, _, rfl, _, _, rfl, rfl, (by show (0 : Int) ≤ (j : Int); omega), _, _, rfl, rfl, rfl, _, rfl, ?_⟩
      have ev : Builtin.bitAnd ((wordOf (clr k l) : Int) / 2 ^ ((j : Nat) : Int).toNat) 1 = ((((clr k l)[j]?).getD false).toNat : Int) := by
        rw [shr' _ j _ rfl, show (1 : Int) = ((1 : Nat) : Int) from rfl, band, Nat.and_one_is_mod, Nat.shiftRight_eq_div_pow, wordOf_bit]
      by_cases e : j = q
      · subst e
        rw [cq] at ev
        refine iteDF (fun z => ?_) ⟨_, rfl, kk⟩
        have z2 := V.int.inj z
        rw [ev] at z2
        cases z2
      · rw [cj j (by omega)] at ev
        refine iteDT (congrArg V.int ev) ⟨fun σ' H' => H' = H2 ∧ σ' = [some (.int (wordOf (clr k l) : Nat)), some (.int (k : Nat)), v, some (.int ((j + 1 : Nat) : Int))], ?_, ?_⟩
        · rintro σ' H' ⟨rfl, rfl⟩
          exact ⟨q - (j + 1), by omega, j + 1, rfl, by omega, rfl, rfl⟩
        · refine ⟨_, rfl, _, _, rfl, rfl, rfl, ?_⟩
          rfl
theorem sc_IsAmid : FnScope ["thing", "low", "high"] ["thing", "low", "high"] (defScope sIsAmid) := ⟨rfl, rfl, rfl, by decide +kernel, rfl, by decide +kernel, by decide +kernel⟩
theorem ok_IsAmid (T : Txt K mg)  : Cl P w K mg base 1 "is_amid" spIsAmid := by
  refine cl_of T.g_is_amid (fn_ok (N := ["thing", "low", "high"]) T.f_IsAmid sc_IsAmid (fun vs H Q E h => ?_) (fun _ _ _ _ _ _ us hl => match us, hl with | [_, _, _], _ => rfl) (fun cdv A outer s H vs Q E hr h => ?_))
  · obtain ⟨a, b, c, rfl, _⟩ := h
    rfl
  · obtain ⟨a, b, c, rfl, h1, h2, k⟩ := h
    refine ⟨_, (pss_one (ps_ret (pe_and (pe_isi (T := "int") T.z_isinstance T.z_int (pv 0)) (pe_and (pe_not (pe_isi (T := "bool") T.z_isinstance T.z_bool (pv 0))) (pe_one (pe_chain op_le op_le (pv 1) (pv 0) (pv 2))))))), ?_⟩
    refine ⟨_, rfl, isi_int_int _ ⟨true, rfl, iteT ?_⟩⟩
    refine ⟨_, rfl, isi_int_bool _ ⟨false, rfl, ⟨true, rfl, iteT ?_⟩⟩⟩
    refine ⟨_, rfl, _, rfl, _, _, rfl, rfl, _, rfl, iteDT h1 ?_⟩
    refine ⟨_, rfl, _, _, rfl, rfl, ?_⟩
    exact blT h2 k
theorem sc_IsWholeC : FnScope ["thing"] ["thing"] (defScope sIsWholeC) := ⟨rfl, rfl, rfl, by decide +kernel, rfl, by decide +kernel, by decide +kernel⟩
theorem ok_IsWholeC (T : Txt K mg)  : Cl P w K mg base 1 "is_whole_counts" spIsWhole := by
  refine cl_of T.g_is_whole_counts (fn_ok (N := ["thing"]) T.f_IsWholeC sc_IsWholeC (fun vs H Q E h => ?_) (fun _ _ _ _ _ _ us hl => match us, hl with | [_], _ => rfl) (fun cdv A outer s H vs Q E hr h => ?_))
  · obtain ⟨i, rfl, _⟩ := h
    rfl
  · obtain ⟨i, rfl, k⟩ := h
    refine ⟨_, (pss_one (ps_ret (pe_and (pe_isi (T := "int") T.z_isinstance T.z_int (pv 0)) (pe_one (pe_not (pe_isi (T := "bool") T.z_isinstance T.z_bool (pv 0))))))), ?_⟩
    refine ⟨_, rfl, isi_int_int _ ⟨true, rfl, iteT ?_⟩⟩
    exact ⟨_, rfl, isi_int_bool _ ⟨false, rfl, k⟩⟩
theorem sc_IsWholeP : FnScope ["thing"] ["thing"] (defScope sIsWholeP) := ⟨rfl, rfl, rfl, by decide +kernel, rfl, by decide +kernel, by decide +kernel⟩
theorem ok_IsWholeP (T : Txt K mg)  : Cl P w K mg base 1 "is_whole_pairs" spIsWhole := by
  refine cl_of T.g_is_whole_pairs (fn_ok (N := ["thing"]) T.f_IsWholeP sc_IsWholeP (fun vs H Q E h => ?_) (fun _ _ _ _ _ _ us hl => match us, hl with | [_], _ => rfl) (fun cdv A outer s H vs Q E hr h => ?_))
  · obtain ⟨i, rfl, _⟩ := h
    rfl
  · obtain ⟨i, rfl, k⟩ := h
    refine ⟨_, (pss_one (ps_ret (pe_and (pe_isi (T := "int") T.z_isinstance T.z_int (pv 0)) (pe_one (pe_not (pe_isi (T := "bool") T.z_isinstance T.z_bool (pv 0))))))), ?_⟩
    refine ⟨_, rfl, isi_int_int _ ⟨true, rfl, iteT ?_⟩⟩
    exact ⟨_, rfl, isi_int_bool _ ⟨false, rfl, k⟩⟩
theorem sc_IsFromNought : FnScope ["thing"] ["thing"] (defScope sIsFromNought) := ⟨rfl, rfl, rfl, by decide +kernel, rfl, by decide +kernel, by decide +kernel⟩
theorem ok_IsFromNought (T : Txt K mg)  : Cl P w K mg base 1 "is_from_nought" spIsFromNought := by
  refine cl_of T.g_is_from_nought (fn_ok (N := ["thing"]) T.f_IsFromNought sc_IsFromNought (fun vs H Q E h => ?_) (fun _ _ _ _ _ _ us hl => match us, hl with | [_], _ => rfl) (fun cdv A outer s H vs Q E hr h => ?_))
  · obtain ⟨i, rfl, _⟩ := h
    rfl
  · obtain ⟨i, rfl, h1, k⟩ := h
    refine ⟨_, (pss_one (ps_ret (pe_and (pe_isi (T := "int") T.z_isinstance T.z_int (pv 0)) (pe_and (pe_not (pe_isi (T := "bool") T.z_isinstance T.z_bool (pv 0))) (pe_one (pe_cmpR op_ge (pv 0) pe_int (nomark _))))))), ?_⟩
    refine ⟨_, rfl, isi_int_int _ ⟨true, rfl, iteT ?_⟩⟩
    refine ⟨_, rfl, isi_int_bool _ ⟨false, rfl, ⟨true, rfl, iteT ?_⟩⟩⟩
    exact ⟨_, rfl, _, _, rfl, rfl, blT h1 k⟩
theorem sc_NeedBit : FnScope ["bit"] ["bit"] (defScope sNeedBit) := ⟨rfl, rfl, rfl, by decide +kernel, rfl, by decide +kernel, by decide +kernel⟩
theorem ok_NeedBit (T : Txt K mg) (cIsWholeC : Cl P w K mg base 1 "is_whole_counts" spIsWhole) : Cl P w K mg base 2 "need_bit" spNeedBit := by
  refine cl_of T.g_need_bit (fn_ok (N := ["bit"]) T.f_NeedBit sc_NeedBit (fun vs H Q E h => ?_) (fun _ _ _ _ _ _ us hl => match us, hl with | [_], _ => rfl) (fun cdv A outer s H vs Q E hr h => ?_))
  · obtain ⟨b, rfl, _⟩ := h
    rfl
  · obtain ⟨b, rfl, k⟩ := h
    refine ⟨_, (pss_one (ps_if (PW.pt (pw_or (pt_not (pt_val (pe_c cIsWholeC hr (pa_cons (pv 0) pa_nil)))) (pw_or1 (pt_cmpR op_notIn_seq (pv 0) (pe_tup (pa_cons pe_int (pa_cons pe_int pa_nil))) rfl))))
      pss_never
      pss_nil)), ?_⟩
    refine ⟨_, rfl, _, rfl, true, rfl, iteF ?_⟩
    refine ⟨_, rfl, (by show 2 ≤ sizeLine; decide), fun p np => ?_⟩
    refine ⟨p, _, rfl, .inr (.inl (.inl upd_same)), rfl, rfl, false, ?_, iteF (k _ (same_new np))⟩
    cases b <;> rfl
end
end TW
/-! U2: walks (joined by mk.py). -/
namespace TW
open PySem PySem.Spec PyProof.Rows L2
section
variable {P : Program} {w : World} {K : PySem.W.Frag} {mg : Str → Option Value} {base : Heap}

theorem sc_WordsOf : FnScope ["text", "words", "start", "word", "place", "sign"] ["text"] (defScope sWordsOf) := ⟨rfl, rfl, rfl, by decide +kernel, rfl, by decide +kernel, by decide +kernel⟩
theorem ok_WordsOf (T : Txt K mg)  : Cl P w K mg base 1 "words_of" spWordsOf := by
  obtain ⟨_, i_WORD_words⟩ := T.i_WORD_words
  refine cl_of T.g_words_of (fn_ok (N := ["text", "words", "start", "word", "place", "sign"]) T.f_WordsOf sc_WordsOf (fun vs H Q E h => ?_) (fun _ _ _ _ _ _ us hl => match us, hl with | [_], _ => rfl) (fun cdv A outer s H vs Q E hr h => ?_))
  · obtain ⟨bs, rfl, _⟩ := h
    rfl
  · obtain ⟨bs, rfl, hl, k⟩ := h
    refine ⟨_, (pss_cons (ps_set (i := 1) sc_WordsOf.nd rfl (Or.inl rfl) (pe_lst pa_nil))
      (pss_cons (ps_for PassesOwn.never rfl (pi_range3 (by rfl) T.z_range (pa_cons pe_int (pa_cons (pe_callB call_len_str (by rfl) T.z_len PySem.boot_len (pa_cons (pv 0) pa_nil)) (pa_cons (pe_gi (by rfl) i_WORD_words) pa_nil)))) (pg_name (i := 2) sc_WordsOf.nd rfl (Or.inl rfl))
      (pss_cons (ps_set (i := 3) sc_WordsOf.nd rfl (Or.inl rfl) pe_int)
        (pss_cons (ps_for PassesOwn.never rfl (pi_enumS (by rfl) T.z_enumerate (pa_cons (pe_slice sl_str (pv 0) (po_some (pv 2)) (po_some (pe_op op_add (pv 2) (pe_gi (by rfl) i_WORD_words)))) pa_nil)) (pg_tup rfl (pgs_cons (pg_name (i := 4) sc_WordsOf.nd rfl (Or.inl rfl)) (pgs_cons (pg_name (i := 5) sc_WordsOf.nd rfl (Or.inl rfl)) pgs_nil)))
        (pss_one (ps_if (pt_cmpR op_eq (pv 5) pe_str (nomark _))
          (pss_one (ps_set (i := 3) sc_WordsOf.nd rfl (Or.inl rfl) (pe_op op_or (pv 3) (pe_op op_shl pe_int (pv 4)))))
          pss_nil)))
        (pss_one (ps_expr (pe_bm PySem.F.plainAttrs_list PySem.F.slot_list_append PySem.F.type_list_append mt_append (pv 1) (pa_cons (pv 3) pa_nil)))))))
      (pss_one (ps_ret (pe_callTy call_tuple_of (by rfl) T.z_tuple (by decide +kernel) (pa_cons (pv 1) pa_nil)))))), ?_⟩
    refine ⟨Nat.zero_le _, fun o no => ?_⟩
    refine ⟨_, rfl, _, rfl, (by rw [tx_len]; exact sl_20 (by omega)), _, _, _, nw bs, rfl, (by rw [tx_len]; exact rgc_up (n := bs.length) (c := 32) (by omega) (by decide) (by decide)),
      for_rangeC (lo := 0) (c := 32) (n := nw bs) (fun i σ H' => ∃ v2 v3 v4 v5, σ = [some (.str (tx bs)), some (.ref o), v2, v3, v4, v5] ∧ Same H H' ∧ H' o = some (.lst (vN ((List.range i).map fun j => wordOf (chunk bs j)))))
      ⟨_, _, _, _, rfl, same_new no, upd_same⟩ ?_ ?_⟩
    · rintro i σ H1 hi ⟨v2, v3, v4, v5, rfl, s1, h1⟩
      have ecut : cutS (tx bs) (some (0 + (i : Int) * 32)) (some (0 + (i : Int) * 32 + 32)) = tx (chunk bs i) := cut_tx bs (i := 32 * i) (m := 32) (by omega) (by omega)
      refine ⟨_, rfl, _, rfl, _, rfl, _, rfl, _, _, rfl, rfl, _, rfl, _, rfl, (by rw [tx_len]; exact sl_20 (by omega)), _, rfl, ?_⟩
      rw [ecut]
      refine for_it (walk_enumS (x := tx (chunk bs i))) (fun m σ H' => ∃ v4 v5, σ = [some (.str (tx bs)), some (.ref o), some (.int (0 + (i : Int) * 32)), some (.int (wordOf ((chunk bs i).take m) : Nat)), v4, v5] ∧ Same H1 H')
        ⟨_, _, rfl, Same.refl _⟩ (fun _ _ _ _ _ => trivial) ?_ ?_
      · rintro m x σ H2 H3 hm ⟨v4, v5, rfl, s2⟩ ⟨T, c, rfl, nT, rfl, hc⟩
        obtain ⟨b, hb, rfl, et⟩ := take_sign hc
        have lm : m < (chunk bs i).length := (List.getElem?_eq_some_iff.mp hb).1
        have s3 : Same H1 (upd H2 T (.tup [.int (m : Nat), .str ⟨#[sgn b]⟩])) := s2.trans (same_new nT)
        refine ⟨T, _, rfl, .inl (.inl upd_same), rfl, _, _, rfl, _, _, rfl, rfl, _, rfl, rfl, _, rfl, ?_⟩
        cases b with
        | true =>
          refine iteDT (congrArg V.str str1) ?_
          refine ⟨_, rfl, _, rfl, _, _, rfl, rfl, ⟨by omega, by have := chunk_len bs i; omega, by decide⟩, _, _, rfl, rfl, ?_⟩
          refine ⟨some (.int (m : Nat)), some (.str ⟨#[sgn true]⟩), ?_, s3⟩
          have ew := word_or ((chunk bs i).take m)
          rw [List.length_take, Nat.min_eq_left (by omega)] at ew
          rw [et, ← ew]
          rfl
        | false =>
          refine iteDF (fun z => str0 (V.str.inj z)) ?_
          refine ⟨some (.int (m : Nat)), some (.str ⟨#[sgn false]⟩), ?_, s3⟩
          rw [et, wordOf_snoc, Bool.toNat_false, Nat.zero_mul, Nat.add_zero]
          rfl
      · rintro σ H2 ⟨v4, v5, rfl, s2⟩
        rw [tx_size, List.take_of_length_le (Nat.le_refl _)]
        have h2 := s2 _ _ h1
        refine ⟨_, rfl, .inl ⟨rfl, _, SqL.of h2⟩, _, rfl, o, _, _, rfl, rfl, h2, ?_, ?_⟩
        · simp only [vN, List.length_map, List.length_range]
          have : nw bs ≤ bs.length + 31 := Nat.div_le_self _ _
          exact sl_20' (by unfold nw at hi; omega)
        · refine ⟨_, _, _, _, rfl, fun b x e => ?_, ?_⟩
          · rw [upd_ne (ne_of_none e no)]
            exact s2 _ _ (s1 _ _ e)
          · rw [upd_same]
            simp [vN, List.range_succ]
    · rintro σ H1 ⟨v2, v3, v4, v5, rfl, s1, h1⟩
      refine ⟨_, rfl, o, _, rfl, .inl ⟨SqL.of h1, fun t nt => ?_⟩⟩
      exact k _ t (s1.trans (same_new nt)) upd_same
theorem sc_B_Init : FnScope ["self", "text", "sign"] ["self", "text"] (defScope sB_Init) := ⟨rfl, rfl, rfl, by decide +kernel, rfl, by decide +kernel, by decide +kernel⟩
theorem ok_B_Init (T : Txt K mg) (cWordsOf : Cl P w K mg base 1 "words_of" spWordsOf) : Mkk P w K mg base 2 "Bits" (cB K) (spBInit K) := by
  obtain ⟨_, i_MOST_bits⟩ := T.i_MOST_bits
  refine mk_of T.k_Bits T.g_Bits (fn_ok (N := ["self", "text", "sign"]) T.f_B_Init sc_B_Init (fun vs H Q E h => ?_) (fun _ _ _ _ _ _ us hl => match us, hl with | [_, _], _ => rfl) (fun cdv A outer s H vs Q E hr h => ?_))
  · obtain ⟨p, dx, bs, rfl, _⟩ := h
    rfl
  · obtain ⟨p, dx, bs, rfl, hp, hl, k⟩ := h
    refine ⟨_, (pss_cons (ps_if (PW.pt (pw_or (pt_not (pt_val (pe_isi (T := "str") T.z_isinstance T.z_str (pv 1)))) (pw_or (pt_cmpR op_gt (pe_callB call_len_str (by rfl) T.z_len PySem.boot_len (pa_cons (pv 1) pa_nil)) (pe_gi (by rfl) i_MOST_bits) (nomark _)) (pw_or1 (pt_not (pt_val (pe_callB (cr_all rfl) (by rfl) T.z_all (by decide +kernel) (pa_cons (pe_lc (own := [("sign", 2)]) (g := gName 2) (by rfl) sc_B_Init.nd (pi_str (pv 1)) (blkOk_by (own := [("sign", 2)]) (N := ["self", "text", "sign"]) (sc := defScope sB_Init) (by decide +kernel)) (fun _ _ _ _ _ => pg_name (i := 2) sc_B_Init.nd rfl (Or.inl rfl)) (fun _ _ _ _ _ => pts_nil) (fun _ _ _ _ _ => (pe_cmpR op_in_sign (pv 2) pe_str rfl))) pa_nil))))))))
      pss_never
      pss_nil)
      (pss_cons (ps_fld (pv 0) (pe_c cWordsOf hr (pa_cons (pv 1) pa_nil)) rfl)
      (pss_one (ps_fld (pv 0) (pe_callB call_len_str (by rfl) T.z_len PySem.boot_len (pa_cons (pv 1) pa_nil)) rfl)))), ?_⟩
    refine ⟨_, rfl, isi_str_str _ ⟨true, rfl, iteF ?_⟩⟩
    refine ⟨_, rfl, _, rfl, (by rw [tx_len]; exact sl_20 (by omega)), _, _, rfl, rfl, _, rfl, iteDF (by rw [tx_len]; omega) ?_⟩
    refine ⟨_, rfl, _, rfl, fun D nD => lc_it (walk_str (z := tx bs)) (fun i H' => Same H H' ∧ H' D = some (.lst ((List.replicate i true).map V.bl))) ⟨same_new nD, upd_same⟩ (fun _ _ _ _ => trivial) ?_ ?_⟩
    · rintro i x H2 H3 hi ⟨s1, h1⟩ ⟨rfl, c, hc, rfl⟩
      rw [tx_size] at hi
      rw [tx_at] at hc
      refine ⟨rfl, tyes ?_⟩
      refine ⟨_, rfl, _, _, rfl, rfl, _, h1, by simp; exact sl_20' (by omega), ?_, ?_⟩
      · intro b o e
        rw [upd_ne (ne_of_none e nD)]
        exact s1 _ _ e
      · rw [upd_same]
        have e1 : decide (c ∈ ("01" : Str).cps.toList) = true := by
          cases e : bs[i]? with
          | none =>
            rw [e] at hc
            cases hc
          | some b =>
            rw [e] at hc
            have e2 : sgn b = c := Option.some.inj hc
            subst e2
            cases b <;> decide +kernel
        rw [List.replicate_succ', List.map_append]
        show some (HO.lst (_ ++ [V.bl (decide (c ∈ ("01" : Str).cps.toList))])) = _
        rw [e1]
        rfl
    · rintro H1 ⟨s1, h1⟩
      refine ⟨D, _, rfl, SqL.of h1, true, ?_, iteF ?_⟩
      · simp
      have hp1 := s1 _ _ hp
      refine ⟨_, rfl, bs, rfl, hl, fun H2 t s2 ht => ?_⟩
      have hp2 := s2 _ _ hp1
      have npt : t ≠ p := ne_of ht hp2 (by intro q; cases q)
      refine ⟨_, rfl, p, cB K, dx, _, rfl, hp2, T.c_Bits, T.n_Bits_kept, few0, ?_⟩
      refine ⟨_, rfl, _, rfl, (by rw [tx_len]; exact sl_20 (by omega)), ?_⟩
      refine ⟨_, rfl, p, cB K, dx, _, rfl, upd_same, T.c_Bits, T.n_Bits_length, few1, ?_⟩
      refine k _ t ⟨⟨dx, ?_⟩, ?_⟩ fun b o e nb => ?_
      · rw [upd_same, tx_len]
        rfl
      · rw [upd_ne npt, upd_ne npt]
        exact ht
      · rw [upd_ne nb, upd_ne nb]
        exact s2 _ _ (s1 _ _ e)
theorem sc_B_Size : FnScope ["self"] ["self"] (defScope sB_Size) := ⟨rfl, rfl, rfl, by decide +kernel, rfl, by decide +kernel, by decide +kernel⟩
theorem ok_B_Size (T : Txt K mg)  : Mt P w K mg base 1 (cB K) "size" (spBSize K) := by
  refine mt_of T.c_Bits T.m_Bits_size (fn_ok (N := ["self"]) T.f_B_Size sc_B_Size (fun vs H Q E h => ?_) (fun _ _ _ _ _ _ us hl => match us, hl with | [_], _ => rfl) (fun cdv A outer s H vs Q E hr h => ?_))
  · obtain ⟨a, t, bs, rfl, _⟩ := h
    rfl
  · obtain ⟨a, t, bs, rfl, ⟨⟨dx, h1⟩, h2⟩, k⟩ := h
    refine ⟨_, (pss_one (ps_ret (pe_fld (pv 0) rfl))), ?_⟩
    exact ⟨_, rfl, a, cB K, dx, _, _, rfl, h1, T.c_Bits, T.n_Bits_length, bF_length _ _, k⟩
theorem sc_B_Words : FnScope ["self"] ["self"] (defScope sB_Words) := ⟨rfl, rfl, rfl, by decide +kernel, rfl, by decide +kernel, by decide +kernel⟩
theorem ok_B_Words (T : Txt K mg)  : Mt P w K mg base 1 (cB K) "words" (spBWords K) := by
  refine mt_of T.c_Bits T.m_Bits_words (fn_ok (N := ["self"]) T.f_B_Words sc_B_Words (fun vs H Q E h => ?_) (fun _ _ _ _ _ _ us hl => match us, hl with | [_], _ => rfl) (fun cdv A outer s H vs Q E hr h => ?_))
  · obtain ⟨a, t, bs, rfl, _⟩ := h
    rfl
  · obtain ⟨a, t, bs, rfl, ⟨⟨dx, h1⟩, h2⟩, k⟩ := h
    refine ⟨_, (pss_one (ps_ret (pe_fld (pv 0) rfl))), ?_⟩
    exact ⟨_, rfl, a, cB K, dx, _, _, rfl, h1, T.c_Bits, T.n_Bits_kept, bF_kept _ _, k⟩
theorem sc_B_Need : FnScope ["self", "place", "most"] ["self", "place", "most"] (defScope sB_Need) := ⟨rfl, rfl, rfl, by decide +kernel, rfl, by decide +kernel, by decide +kernel⟩
theorem ok_B_Need (T : Txt K mg) (cIsAmid : Cl P w K mg base 1 "is_amid" spIsAmid) : Mt P w K mg base 2 (cB K) "need" spBNeed := by
  refine mt_of T.c_Bits T.m_Bits_need (fn_ok (N := ["self", "place", "most"]) T.f_B_Need sc_B_Need (fun vs H Q E h => ?_) (fun _ _ _ _ _ _ us hl => match us, hl with | [_, _, _], _ => rfl) (fun cdv A outer s H vs Q E hr h => ?_))
  · obtain ⟨x, i, m, rfl, _⟩ := h
    rfl
  · obtain ⟨x, i, m, rfl, h1, h2, k⟩ := h
    refine ⟨_, (pss_one (ps_if (pt_not (pt_val (pe_c cIsAmid hr (pa_cons (pv 1) (pa_cons pe_int (pa_cons (pv 2) pa_nil))))))
      pss_never
      pss_nil)), ?_⟩
    exact ⟨_, rfl, _, rfl, i, 0, m, rfl, h1, h2, true, rfl, iteF k⟩
theorem at_val {bs : List Bool} {i : Nat} {b : Bool} (hb : bs[i]? = some b) : Builtin.bitAnd ((wordOf (chunk bs (i / 32)) : Int) / 2 ^ (Int.fmod (i : Int) 32).toNat) 1 = ((b.toNat : Nat) : Int) := by
  rw [show (32 : Int) = ((32 : Nat) : Int) from rfl, fmodN, shr' _ (i % 32) _ rfl, show (1 : Int) = ((1 : Nat) : Int) from rfl, band, Nat.and_one_is_mod, Nat.shiftRight_eq_div_pow, wordOf_bit, chunk_at, hb]
  rfl
theorem sc_B_At : FnScope ["self", "place"] ["self", "place"] (defScope sB_At) := ⟨rfl, rfl, rfl, by decide +kernel, rfl, by decide +kernel, by decide +kernel⟩
theorem ok_B_At (T : Txt K mg)  : Mt P w K mg base 1 (cB K) "at" (spBAt K) := by
  obtain ⟨_, i_WORD_words⟩ := T.i_WORD_words
  refine mt_of T.c_Bits T.m_Bits_at (fn_ok (N := ["self", "place"]) T.f_B_At sc_B_At (fun vs H Q E h => ?_) (fun _ _ _ _ _ _ us hl => match us, hl with | [_, _], _ => rfl) (fun cdv A outer s H vs Q E hr h => ?_))
  · obtain ⟨a, t, bs, i, b, rfl, _⟩ := h
    rfl
  · obtain ⟨a, t, bs, i, b, rfl, ⟨⟨dx, h1⟩, h2⟩, hb, k⟩ := h
    refine ⟨_, (pss_one (ps_ret (pe_op op_and (pe_op op_shr (pe_ix ix_tup (pe_fld (pv 0) rfl) (pe_op op_fdivN (pv 1) (pe_gi (by rfl) i_WORD_words)) (fun _ _ => rfl)) (pe_op op_modN (pv 1) (pe_gi (by rfl) i_WORD_words))) pe_int))), ?_⟩
    have il : i < bs.length := (List.getElem?_eq_some_iff.mp hb).1
    refine ⟨_, rfl, a, cB K, dx, _, _, rfl, h1, T.c_Bits, T.n_Bits_kept, bF_kept _ _, _, rfl, _, _, rfl, rfl, ⟨by decide, by decide⟩, t, _, _, _, rfl, rfl, SqT.of h2, at_of (fdivN i 32) (wds_at (nw_gt il)), ?_⟩
    refine ⟨_, rfl, _, _, rfl, rfl, (by show (32 : Int) ≠ 0; decide), _, _, rfl, rfl, ?_, _, _, rfl, rfl, ?_⟩
    · show (0 : Int) ≤ Int.fmod (i : Int) 32
      rw [show (32 : Int) = ((32 : Nat) : Int) from rfl, fmodN]
      omega
    · exact intE (at_val hb) k
theorem sc_B_Bit : FnScope ["self", "place"] ["self", "place"] (defScope sB_Bit) := ⟨rfl, rfl, rfl, by decide +kernel, rfl, by decide +kernel, by decide +kernel⟩
theorem ok_B_Bit (T : Txt K mg) (mBAt : Mt P w K mg base 1 (cB K) "at" (spBAt K)) (mBNeed : Mt P w K mg base 2 (cB K) "need" spBNeed) : Mt P w K mg base 3 (cB K) "bit" (spBAt K) := by
  refine mt_of T.c_Bits T.m_Bits_bit (fn_ok (N := ["self", "place"]) T.f_B_Bit sc_B_Bit (fun vs H Q E h => ?_) (fun _ _ _ _ _ _ us hl => match us, hl with | [_, _], _ => rfl) (fun cdv A outer s H vs Q E hr h => ?_))
  · obtain ⟨a, t, bs, i, b, rfl, _⟩ := h
    rfl
  · obtain ⟨a, t, bs, i, b, rfl, B, hb, k⟩ := h
    refine ⟨_, (pss_cons (ps_expr (pe_m mBNeed hr (pv 0) (pa_cons (pv 1) (pa_cons (pe_op op_sub (pe_fld (pv 0) rfl) pe_int) pa_nil))))
      (pss_one (ps_ret (pe_m mBAt hr (pv 0) (pa_cons (pv 1) pa_nil))))), ?_⟩
    obtain ⟨⟨dx, h1⟩, h2⟩ := id B
    have il : i < bs.length := (List.getElem?_eq_some_iff.mp hb).1
    refine ⟨_, rfl, a, dx, _, rfl, h1, bF_no (by decide +kernel) (by decide +kernel), _, rfl, _, rfl, a, cB K, dx, _, _, rfl, h1, T.c_Bits, T.n_Bits_length, bF_length _ _, _, _, rfl, rfl, _, _, _, rfl, by omega, by omega, ?_⟩
    exact ⟨_, rfl, a, dx, _, rfl, h1, bF_no (by decide +kernel) (by decide +kernel), _, rfl, a, t, bs, i, b, rfl, B, hb, k⟩
end
end TW
/-! U3: walks (joined by mk.py). -/
namespace TW
open PySem PySem.Spec PyProof.Rows L2
section
variable {P : Program} {w : World} {K : PySem.W.Frag} {mg : Str → Option Value} {base : Heap}

theorem bF_ne (t : Addr) (n : Nat) : ¬ bF t n = [] := by
  intro z
  have e := bF_kept t n
  rw [z] at e
  cases e
theorem BitsAt.but {K : PySem.W.Frag} {H H' : Hp} {a t p : Addr} {bs : List Bool} (h : BitsAt K H a t bs) (s : But p H H') (ha : a ≠ p) (ht : t ≠ p) : BitsAt K H' a t bs := by
  obtain ⟨⟨dx, h1⟩, h2⟩ := h
  exact ⟨⟨dx, s _ _ h1 ha⟩, s _ _ h2 ht⟩
theorem but_upd {p : Addr} {H : Hp} {o : HO} : But p H (upd H p o) := fun b x e nb => by
  rw [upd_ne nb]
  exact e
theorem sc_C_Init : FnScope ["self", "bits", "found", "start", "word"] ["self", "bits"] (defScope sC_Init) := ⟨rfl, rfl, rfl, by decide +kernel, rfl, by decide +kernel, by decide +kernel⟩
theorem ok_C_Init (T : Txt K mg) (cOnesIn : Cl P w K mg base 1 "ones_in" spOnesIn) (mBSize : Mt P w K mg base 1 (cB K) "size" (spBSize K)) (mBWords : Mt P w K mg base 1 (cB K) "words" (spBWords K)) : Mkk P w K mg base 2 "Counts" (cC K) (spCInit K) := by
  obtain ⟨_, i_BLOCK⟩ := T.i_BLOCK
  refine mk_of T.k_Counts T.g_Counts (fn_ok (N := ["self", "bits", "found", "start", "word"]) T.f_C_Init sc_C_Init (fun vs H Q E h => ?_) (fun _ _ _ _ _ _ us hl => match us, hl with | [_, _], _ => rfl) (fun cdv A outer s H vs Q E hr h => ?_))
  · obtain ⟨p, dx, b, t, bs, rfl, _⟩ := h
    rfl
  · obtain ⟨p, dx, b, t, bs, rfl, hp, B, hl, k⟩ := h
    refine ⟨_, (pss_cons (ps_fld (pv 0) (pe_m0' mBWords hr (pv 1)) rfl)
      (pss_cons (ps_fld (pv 0) (pe_m0' mBSize hr (pv 1)) rfl)
      (pss_cons (ps_set (i := 2) sc_C_Init.nd rfl (Or.inl rfl) (pe_lst (pa_cons pe_int pa_nil)))
      (pss_cons (ps_for PassesOwn.never rfl (pi_range3 (by rfl) T.z_range (pa_cons pe_int (pa_cons (pe_callB call_len_seq (by rfl) T.z_len PySem.boot_len (pa_cons (pe_fld (pv 0) rfl) pa_nil)) (pa_cons (pe_gi (by rfl) i_BLOCK) pa_nil)))) (pg_name (i := 3) sc_C_Init.nd rfl (Or.inl rfl))
      (pss_one (ps_expr (pe_bm PySem.F.plainAttrs_list PySem.F.slot_list_append PySem.F.type_list_append mt_append (pv 2) (pa_cons (pe_op op_add (pe_ix ix_list (pv 2) (pe_un un_neg pe_int) (fun _ _ => rfl)) (pe_callB (cr_sum rfl) (by rfl) T.z_sum (by decide +kernel) (pa_cons (pe_lc (own := [("word", 4)]) (g := gName 4) (by rfl) sc_C_Init.nd (pi_tup (pe_slice sl_tupA (pe_fld (pv 0) rfl) (po_some (pv 3)) (po_some (pe_op op_add (pv 3) (pe_gi (by rfl) i_BLOCK))))) (blkOk_by (own := [("word", 4)]) (N := ["self", "bits", "found", "start", "word"]) (sc := defScope sC_Init) (by decide +kernel)) (fun _ _ _ _ _ => pg_name (i := 4) sc_C_Init.nd rfl (Or.inl rfl)) (fun _ _ _ _ _ => pts_nil) (fun _ _ _ _ _ => (pe_c cOnesIn hr (pa_cons (pv 4) pa_nil)))) pa_nil))) pa_nil)))))
      (pss_one (ps_fld (pv 0) (pe_callTy call_tuple_of (by rfl) T.z_tuple (by decide +kernel) (pa_cons (pv 2) pa_nil)) rfl)))))), ?_⟩
    obtain ⟨⟨dxb, hb1⟩, hb2⟩ := id B
    have nbp : b ≠ p := ne_of hb1 hp (by intro z; injection z with _ _ z; exact bF_ne _ _ z)
    have ntp : t ≠ p := ne_of hb2 hp (by intro z; cases z)
    refine ⟨_, rfl, b, dxb, _, rfl, hb1, bF_no (by decide +kernel) (by decide +kernel), b, t, bs, rfl, B, ?_⟩
    refine ⟨_, rfl, p, cC K, dx, _, rfl, hp, T.c_Counts, T.n_Counts_kept, few0, ?_⟩
    have B1 := B.but (but_upd (o := .ins (cC K) dx (putF "kept" (.ref t) []))) nbp ntp
    obtain ⟨⟨dxb', hb1'⟩, hb2'⟩ := id B1
    refine ⟨_, rfl, b, dxb', _, rfl, hb1', bF_no (by decide +kernel) (by decide +kernel), b, t, bs, rfl, B1, ?_⟩
    refine ⟨_, rfl, p, cC K, dx, _, rfl, upd_same, T.c_Counts, T.n_Counts_all_many, few1, ?_⟩
    have B2 := B1.but (but_upd (o := .ins (cC K) dx (putF "all_many" (.int bs.length) (putF "kept" (.ref t) [])))) nbp ntp
    have but2 : But p H (upd (upd H p (.ins (cC K) dx (putF "kept" (.ref t) []))) p (.ins (cC K) dx (putF "all_many" (.int bs.length) (putF "kept" (.ref t) [])))) := fun c x e nc => by
      rw [upd_ne nc, upd_ne nc]
      exact e
    have hp2 : (upd (upd H p (.ins (cC K) dx (putF "kept" (.ref t) []))) p (.ins (cC K) dx (putF "all_many" (.int bs.length) (putF "kept" (.ref t) [])))) p = some (.ins (cC K) dx (putF "all_many" (.int bs.length) (putF "kept" (.ref t) []))) := upd_same
    generalize (upd (upd H p (.ins (cC K) dx (putF "kept" (.ref t) []))) p (.ins (cC K) dx (putF "all_many" (.int bs.length) (putF "kept" (.ref t) [])))) = H2 at B2 but2 hp2 ⊢
    have ht2 := B2.2
    have lkk : (putF "all_many" (V.int bs.length) (putF "kept" (V.ref t) [])).lookup ("kept" : Str) = some (V.ref t) := by
      rw [lookup_putF, if_neg (by decide +kernel), lookup_putF, if_pos rfl]
    refine ⟨(by show 1 ≤ sizeLine; decide), fun o no => ?_⟩
    have s3 : Same H2 (upd H2 o (.lst [.int 0])) := same_new no
    refine ⟨_, rfl, p, cC K, dx, _, _, rfl, s3 _ _ hp2, T.c_Counts, T.n_Counts_kept, lkk, t, _, rfl, .inr (SqT.of (s3 _ _ ht2)), _, _, _, nb bs, rfl, ?_,
      for_rangeC (lo := 0) (c := 8) (n := nb bs) (fun i σ H' => ∃ v3, σ = [some (.ref p), some (.ref b), some (.ref o), v3, none] ∧ Same H2 H' ∧ H' o = some (.lst (vN ((List.range (i + 1)).map fun j => rk bs (256 * j)))))
      ⟨_, rfl, s3, upd_same⟩ ?_ ?_⟩
    · rw [wds_len]
      exact rgc_up (n := nw bs) (c := 8) (by unfold nw; omega) (by decide) (by decide)
    · rintro i σ H3 hi ⟨v3, rfl, s4, h4⟩
      have hlast : (vN ((List.range (i + 1)).map fun j => rk bs (256 * j))) = (vN ((List.range i).map fun j => rk bs (256 * j))) ++ [.int (rk bs (256 * i) : Nat)] := by
        simp [vN, List.range_succ]
      refine ⟨_, rfl, .inl ⟨rfl, _, SqL.of h4⟩, _, rfl, 1, rfl, o, _, -1, _, rfl, rfl, SqL.of h4, by rw [hlast]; exact atI_last _ _, ?_⟩
      refine ⟨_, rfl, p, cC K, dx, _, _, rfl, s4 _ _ hp2, T.c_Counts, T.n_Counts_kept, lkk, _, rfl, _, rfl, _, rfl, _, _, rfl, rfl, _, rfl, slA (s4 _ _ ht2) fun c H4 s5 hc => ?_⟩
      rw [cutV_nat (i := 8 * i) (m := 8) _ (by omega) (by omega), wds_cut] at hc
      refine ⟨c, rfl, ⟨_, SqT.of hc⟩, fun D nD => lc_ones hc ?_ ?_ nD (fun _ => rfl) (fun _ => rfl) fun H5 s6 hD => ?_⟩
      · intro l hm
        obtain ⟨j, _, rfl⟩ := List.mem_map.mp hm
        exact chunk_le bs j
      · simp only [cls, List.length_map, List.length_take, List.length_drop, List.length_range]
        exact sl_20' (by omega)
      · refine ⟨D, _, rfl, SqL.of hD, _, _, rfl, rfl, o, _, _, rfl, rfl, s6 _ _ (s5 _ _ h4), ?_, ?_⟩
        · simp only [vN, List.length_map, List.length_range]
          exact sl_20' (by unfold nb nw at hi; omega)
        · refine ⟨_, rfl, fun x z e => ?_, ?_⟩
          · rw [upd_ne (ne_of_none e no)]
            exact s6 _ _ (s5 _ _ (s4 _ _ e))
          · have es := cls_sum bs (8 * i) 8
            rw [upd_same, sum_vI]
            have e1 : (rk bs (256 * i) : Int) + ((((cls bs (8 * i) 8).map fun c => c.count true).sum : Nat) : Int) = (rk bs (256 * (i + 1)) : Int) := by
              rw [show 32 * (8 * i) = 256 * i by omega, show 32 * (8 * i + 8) = 256 * (i + 1) by omega] at es
              omega
            show some (HO.lst (_ ++ [V.int ((rk bs (256 * i) : Int) + ((((cls bs (8 * i) 8).map fun c => c.count true).sum : Nat) : Int))])) = _
            rw [e1, List.range_succ (n := i + 1)]
            simp [vN]
    · rintro σ H3 ⟨v3, rfl, s4, h4⟩
      refine ⟨_, rfl, o, _, rfl, .inl ⟨SqL.of h4, fun h nh => ?_⟩⟩
      have hp4 := s4 _ _ hp2
      have nph : p ≠ h := ne_of_none hp4 nh
      have nth : t ≠ h := ne_of_none (s4 _ _ ht2) nh
      refine ⟨_, rfl, p, cC K, dx, _, rfl, (upd_ne nph).trans hp4, T.c_Counts, T.n_Counts_heads, few2, ?_⟩
      refine k _ ⟨dx, t, h, ?_, ?_, ?_⟩ fun c x e nc => ?_
      · rw [upd_same]
        rfl
      · rw [upd_ne ntp, upd_ne nth]
        exact s4 _ _ ht2
      · rw [upd_ne nph.symm, upd_same]
        rfl
      · have e4 := s4 _ _ (but2 _ _ e nc)
        rw [upd_ne nc, upd_ne (ne_of_none e4 nh)]
        exact e4
theorem sc_C_OnesAhead : FnScope ["self", "place", "word", "block", "found", "one"] ["self", "place"] (defScope sC_OnesAhead) := ⟨rfl, rfl, rfl, by decide +kernel, rfl, by decide +kernel, by decide +kernel⟩
theorem ok_C_OnesAhead (T : Txt K mg) (cOnesIn : Cl P w K mg base 1 "ones_in" spOnesIn) : Mt P w K mg base 2 (cC K) "ones_ahead" (spOnesAhead K) := by
  obtain ⟨_, i_WORD_words⟩ := T.i_WORD_words
  obtain ⟨_, i_BLOCK⟩ := T.i_BLOCK
  refine mt_of T.c_Counts T.m_Counts_ones_ahead (fn_ok (N := ["self", "place", "word", "block", "found", "one"]) T.f_C_OnesAhead sc_C_OnesAhead (fun vs H Q E h => ?_) (fun _ _ _ _ _ _ us hl => match us, hl with | [_, _], _ => rfl) (fun cdv A outer s H vs Q E hr h => ?_))
  · obtain ⟨a, bs, i, rfl, _⟩ := h
    rfl
  · obtain ⟨a, bs, i, rfl, C, hi, k⟩ := h
    refine ⟨_, (pss_cons (ps_set (i := 2) sc_C_OnesAhead.nd rfl (Or.inl rfl) (pe_op op_fdivN (pv 1) (pe_gi (by rfl) i_WORD_words)))
      (pss_cons (ps_set (i := 3) sc_C_OnesAhead.nd rfl (Or.inl rfl) (pe_op op_fdivN (pv 2) (pe_gi (by rfl) i_BLOCK)))
      (pss_cons (ps_set (i := 4) sc_C_OnesAhead.nd rfl (Or.inl rfl) (pe_op op_add (pe_ix ix_tup (pe_fld (pv 0) rfl) (pv 3) (fun _ _ => rfl)) (pe_callB (cr_sum rfl) (by rfl) T.z_sum (by decide +kernel) (pa_cons (pe_lc (own := [("one", 5)]) (g := gName 5) (by rfl) sc_C_OnesAhead.nd (pi_tup (pe_slice sl_tupA (pe_fld (pv 0) rfl) (po_some (pe_op op_mul (pv 3) (pe_gi (by rfl) i_BLOCK))) (po_some (pv 2)))) (blkOk_by (own := [("one", 5)]) (N := ["self", "place", "word", "block", "found", "one"]) (sc := defScope sC_OnesAhead) (by decide +kernel)) (fun _ _ _ _ _ => pg_name (i := 5) sc_C_OnesAhead.nd rfl (Or.inl rfl)) (fun _ _ _ _ _ => pts_nil) (fun _ _ _ _ _ => (pe_c cOnesIn hr (pa_cons (pv 5) pa_nil)))) pa_nil))))
      (pss_cons (ps_if (pt_cmpR op_gt (pe_op op_modN (pv 1) (pe_gi (by rfl) i_WORD_words)) pe_int (nomark _))
      (pss_one (ps_set (i := 4) sc_C_OnesAhead.nd rfl (Or.inl rfl) (pe_op op_add (pv 4) (pe_c cOnesIn hr (pa_cons (pe_op op_and (pe_ix ix_tup (pe_fld (pv 0) rfl) (pv 2) (fun _ _ => rfl)) (pe_op op_sub (pe_op op_shl pe_int (pe_op op_modN (pv 1) (pe_gi (by rfl) i_WORD_words))) pe_int)) pa_nil)))))
      pss_nil)
      (pss_one (ps_ret (pv 4))))))), ?_⟩
    obtain ⟨dx, t, h, h1, h2, h3⟩ := id C
    have e32 : Int.fdiv (i : Int) 32 = ((i / 32 : Nat) : Int) := fdivN i 32
    have e256 : Int.fdiv (((i / 32 : Nat) : Int)) 8 = ((i / 256 : Nat) : Int) := by
      rw [show (8 : Int) = ((8 : Nat) : Int) from rfl, fdivN]
      congr 1
      omega
    have er : Int.fmod (i : Int) 32 = ((i % 32 : Nat) : Int) := fmodN i 32
    have hb : i / 256 ≤ nb bs := by unfold nb nw; omega
    refine ⟨_, rfl, _, _, rfl, rfl, ⟨by decide, by decide⟩, ?_⟩
    dsimp only
    rw [e32]
    refine ⟨_, rfl, _, _, rfl, rfl, ⟨by decide, by decide⟩, ?_⟩
    dsimp only
    rw [e256]
    refine ⟨_, rfl, a, cC K, dx, _, _, rfl, h1, T.c_Counts, T.n_Counts_heads, cF_heads _ _ _, _, rfl, h, _, _, _, rfl, rfl, SqT.of h3, at_of rfl (hds_at hb), ?_⟩
    refine ⟨_, rfl, a, cC K, dx, _, _, rfl, h1, T.c_Counts, T.n_Counts_kept, cF_kept _ _ _, _, rfl, _, _, rfl, rfl, .inr ⟨by decide, by decide⟩, _, rfl, _, rfl, _, rfl, slA h2 fun c H4 s5 hc => ?_⟩
    rw [cutV_nat (i := 8 * (i / 256)) (m := i / 32 - 8 * (i / 256)) _ (by omega) (by omega), wds_cut] at hc
    refine ⟨c, rfl, ⟨_, SqT.of hc⟩, fun D nD => lc_ones hc ?_ ?_ nD (fun _ => rfl) (fun _ => rfl) fun H5 s6 hD => ?_⟩
    · intro l hm
      obtain ⟨j, _, rfl⟩ := List.mem_map.mp hm
      exact chunk_le bs j
    · simp only [cls, List.length_map, List.length_take, List.length_drop, List.length_range]
      have : nw bs ≤ 16777215 ∨ 16777215 < nw bs := by omega
      exact Nat.lt_of_le_of_lt (Nat.min_le_left _ _) (Nat.lt_of_le_of_lt (show i / 32 - 8 * (i / 256) ≤ 8 by omega) (by decide))
    · refine ⟨D, _, rfl, SqL.of hD, _, _, rfl, rfl, ?_⟩
      have es := cls_sum bs (8 * (i / 256)) (i / 32 - 8 * (i / 256))
      rw [show 32 * (8 * (i / 256)) = 256 * (i / 256) by omega, show 32 * (8 * (i / 256) + (i / 32 - 8 * (i / 256))) = 32 * (i / 32) by omega] at es
      have e1 : (rk bs (256 * (i / 256)) : Int) + ((((cls bs (8 * (i / 256)) (i / 32 - 8 * (i / 256))).map fun c => c.count true).sum : Nat) : Int) = (rk bs (32 * (i / 32)) : Int) := by omega
      rw [sum_vI]
      have e1' : ∀ z : Int, z = (rk bs (32 * (i / 32)) : Int) → ∀ (R : V → Prop), R (.int (rk bs (32 * (i / 32)) : Nat)) → R (.int z) := fun z e R h => by rw [e]; exact h
      have sA : Same H H5 := s5.trans s6
      refine ⟨_, rfl, _, _, rfl, rfl, (by show (32 : Int) ≠ 0; decide), _, _, rfl, rfl, _, rfl, ite2 (fun z => ?_) (fun z => ?_)⟩
      · have z2 : (0 : Int) < Int.fmod (i : Int) 32 := of_decide_eq_true z
        rw [er] at z2
        have wlt : i / 32 < nw bs := by unfold nw; omega
        have eb : Builtin.bitAnd (wordOf (chunk bs (i / 32)) : Int) (1 * 2 ^ (Int.fmod (i : Int) 32).toNat - 1) = (wordOf ((chunk bs (i / 32)).take (i % 32)) : Int) := by
          rw [er, Int.toNat_natCast, Int.one_mul, Bits.bitAnd_mask _ (by omega), wordOf_take]
          exact_mod_cast (Int.natCast_emod _ _).symm
        refine ⟨_, rfl, _, rfl, a, cC K, dx, _, _, rfl, sA _ _ h1, T.c_Counts, T.n_Counts_kept, cF_kept _ _ _, _, rfl, t, _, _, _, rfl, rfl, SqT.of (sA _ _ h2), at_of rfl (wds_at wlt), ?_⟩
        refine ⟨_, rfl, _, _, rfl, rfl, (by show (32 : Int) ≠ 0; decide), _, _, rfl, rfl, ⟨by rw [er]; omega, by rw [er]; omega, by decide⟩, _, _, rfl, rfl, _, _, rfl, rfl, ?_⟩
        refine ⟨(chunk bs (i / 32)).take (i % 32), congrArg (fun z => [V.int z]) eb, by simp; omega, _, _, rfl, rfl, _, rfl, ?_⟩
        have r := rk_chunk bs (i / 32) (i % 32) (by omega)
        rw [show 32 * (i / 32) + i % 32 = i by omega] at r
        exact intE (by rw [r, e1]; omega) (k _ sA)
      · have z2 : ¬ (0 : Int) < Int.fmod (i : Int) 32 := fun q => z (decide_eq_true q)
        rw [er] at z2
        refine ⟨_, rfl, ?_⟩
        exact intE (by rw [e1, show 32 * (i / 32) = i by omega]) (k _ sA)
theorem sc_C_Ahead : FnScope ["self", "bit", "place", "found"] ["self", "bit", "place"] (defScope sC_Ahead) := ⟨rfl, rfl, rfl, by decide +kernel, rfl, by decide +kernel, by decide +kernel⟩
theorem ok_C_Ahead (T : Txt K mg) (cIsWholeC : Cl P w K mg base 1 "is_whole_counts" spIsWhole) (cNeedBit : Cl P w K mg base 2 "need_bit" spNeedBit) (mCOnesAhead : Mt P w K mg base 2 (cC K) "ones_ahead" (spOnesAhead K)) : Mt P w K mg base 3 (cC K) "ahead" (spAhead K) := by
  refine mt_of T.c_Counts T.m_Counts_ahead (fn_ok (N := ["self", "bit", "place", "found"]) T.f_C_Ahead sc_C_Ahead (fun vs H Q E h => ?_) (fun _ _ _ _ _ _ us hl => match us, hl with | [_, _, _], _ => rfl) (fun cdv A outer s H vs Q E hr h => ?_))
  · obtain ⟨a, bs, b, i, rfl, _⟩ := h
    rfl
  · obtain ⟨a, bs, b, i, rfl, C, hi, k⟩ := h
    refine ⟨_, (pss_cons (ps_expr (pe_c cNeedBit hr (pa_cons (pv 1) pa_nil)))
      (pss_cons (ps_if (PW.pt (pw_or (pt_not (pt_val (pe_c cIsWholeC hr (pa_cons (pv 2) pa_nil)))) (pw_or (pt_cmpR op_lt (pv 2) pe_int (nomark _)) (pw_or1 (pt_cmpR op_gt (pv 2) (pe_fld (pv 0) rfl) (nomark _))))))
      pss_never
      pss_nil)
      (pss_cons (ps_set (i := 3) sc_C_Ahead.nd rfl (Or.inl rfl) (pe_m mCOnesAhead hr (pv 0) (pa_cons (pv 2) pa_nil)))
      (pss_cons (ps_if (pt_cmpR op_eq (pv 1) pe_int (nomark _))
      (pss_one (ps_ret (pv 3)))
      pss_nil)
      (pss_one (ps_ret (pe_op op_sub (pv 2) (pv 3)))))))), ?_⟩
    refine ⟨_, rfl, b, rfl, fun H1 s1 => ?_⟩
    obtain ⟨dx, t, h, h1, h2, h3⟩ := id (C.mono s1)
    refine ⟨_, rfl, _, rfl, true, rfl, iteF ⟨_, rfl, _, _, rfl, rfl, _, rfl, iteDF (by omega) ⟨_, rfl, _, rfl, a, cC K, dx, _, _, rfl, h1, T.c_Counts, T.n_Counts_all_many, cF_all_many _ _ _, _, _, rfl, rfl, _, rfl, iteDF (by omega) ?_⟩⟩⟩
    refine ⟨_, rfl, a, dx, _, rfl, h1, cF_no (by decide +kernel) (by decide +kernel) (by decide +kernel), _, rfl, a, bs, i, rfl, C.mono s1, hi, fun H2 s2 => ?_⟩
    refine ⟨_, rfl, rfl, _, rfl, ?_⟩
    have k' := k _ (s1.trans s2)
    cases b with
    | true => exact iteDT rfl ⟨_, rfl, k'⟩
    | false =>
      refine iteDF (fun z => by cases (V.int.inj z)) ⟨_, rfl, _, rfl, _, _, rfl, rfl, k'⟩
theorem sc_C_Like : FnScope ["self", "word", "bit"] ["self", "word", "bit"] (defScope sC_Like) := ⟨rfl, rfl, rfl, by decide +kernel, rfl, by decide +kernel, by decide +kernel⟩
theorem ok_C_Like (T : Txt K mg)  : Mt P w K mg base 1 (cC K) "like" (spLike K) := by
  obtain ⟨_, i_FULL⟩ := T.i_FULL
  refine mt_of T.c_Counts T.m_Counts_like (fn_ok (N := ["self", "word", "bit"]) T.f_C_Like sc_C_Like (fun vs H Q E h => ?_) (fun _ _ _ _ _ _ us hl => match us, hl with | [_, _, _], _ => rfl) (fun cdv A outer s H vs Q E hr h => ?_))
  · obtain ⟨a, bs, j, rfl, _⟩ := h
    rfl
  · obtain ⟨a, bs, j, rfl, C, hj, k⟩ := h
    refine ⟨_, (pss_cons (ps_if (pt_cmpR op_eq (pv 2) pe_int (nomark _))
      (pss_one (ps_ret (pe_ix ix_tup (pe_fld (pv 0) rfl) (pv 1) (fun _ _ => rfl))))
      pss_nil)
      (pss_one (ps_ret (pe_op op_sub (pe_gi (by rfl) i_FULL) (pe_ix ix_tup (pe_fld (pv 0) rfl) (pv 1) (fun _ _ => rfl)))))), ?_⟩
    obtain ⟨dx, t, h, h1, h2, h3⟩ := id C
    refine ⟨_, rfl, rfl, _, rfl, iteDF (fun z => by cases (V.int.inj z)) ?_⟩
    refine ⟨_, rfl, a, cC K, dx, _, _, rfl, h1, T.c_Counts, T.n_Counts_kept, cF_kept _ _ _, _, rfl, t, _, _, _, rfl, rfl, SqT.of h2, at_of rfl (wds_at hj), _, _, rfl, rfl, ?_⟩
    have e := lk_val bs j
    exact intE (by omega) k
theorem sc_C_LikeAhead : FnScope ["self", "bit", "block"] ["self", "bit", "block"] (defScope sC_LikeAhead) := ⟨rfl, rfl, rfl, by decide +kernel, rfl, by decide +kernel, by decide +kernel⟩
theorem ok_C_LikeAhead (T : Txt K mg)  : Mt P w K mg base 1 (cC K) "like_ahead" (spLikeAhead K) := by
  obtain ⟨_, i_BLOCK⟩ := T.i_BLOCK
  obtain ⟨_, i_WORD_words⟩ := T.i_WORD_words
  refine mt_of T.c_Counts T.m_Counts_like_ahead (fn_ok (N := ["self", "bit", "block"]) T.f_C_LikeAhead sc_C_LikeAhead (fun vs H Q E h => ?_) (fun _ _ _ _ _ _ us hl => match us, hl with | [_, _, _], _ => rfl) (fun cdv A outer s H vs Q E hr h => ?_))
  · obtain ⟨a, bs, j, rfl, _⟩ := h
    rfl
  · obtain ⟨a, bs, j, rfl, C, hj, k⟩ := h
    refine ⟨_, (pss_cons (ps_if (pt_cmpR op_eq (pv 1) pe_int (nomark _))
      (pss_one (ps_ret (pe_ix ix_tup (pe_fld (pv 0) rfl) (pv 2) (fun _ _ => rfl))))
      pss_nil)
      (pss_one (ps_ret (pe_op op_sub (pe_op op_mul (pe_op op_mul (pv 2) (pe_gi (by rfl) i_BLOCK)) (pe_gi (by rfl) i_WORD_words)) (pe_ix ix_tup (pe_fld (pv 0) rfl) (pv 2) (fun _ _ => rfl)))))), ?_⟩
    obtain ⟨dx, t, h, h1, h2, h3⟩ := id C
    refine ⟨_, rfl, rfl, _, rfl, iteDF (fun z => by cases (V.int.inj z)) ?_⟩
    refine ⟨_, rfl, _, _, rfl, rfl, .inr ⟨by decide, by decide⟩, _, _, rfl, rfl, .inr ⟨by decide, by decide⟩, ?_⟩
    refine ⟨_, rfl, a, cC K, dx, _, _, rfl, h1, T.c_Counts, T.n_Counts_heads, cF_heads _ _ _, _, rfl, h, _, _, _, rfl, rfl, SqT.of h3, at_of rfl (hds_at hj), _, _, rfl, rfl, ?_⟩
    exact intE (by omega) k
theorem sc_C_AllLike : FnScope ["self", "bit"] ["self", "bit"] (defScope sC_AllLike) := ⟨rfl, rfl, rfl, by decide +kernel, rfl, by decide +kernel, by decide +kernel⟩
theorem ok_C_AllLike (T : Txt K mg)  : Mt P w K mg base 1 (cC K) "all_like" (spAllLike K) := by
  refine mt_of T.c_Counts T.m_Counts_all_like (fn_ok (N := ["self", "bit"]) T.f_C_AllLike sc_C_AllLike (fun vs H Q E h => ?_) (fun _ _ _ _ _ _ us hl => match us, hl with | [_, _], _ => rfl) (fun cdv A outer s H vs Q E hr h => ?_))
  · obtain ⟨a, bs, rfl, _⟩ := h
    rfl
  · obtain ⟨a, bs, rfl, C, k⟩ := h
    refine ⟨_, (pss_cons (ps_if (pt_cmpR op_eq (pv 1) pe_int (nomark _))
      (pss_one (ps_ret (pe_ix ix_tup (pe_fld (pv 0) rfl) (pe_un un_neg pe_int) (fun _ _ => rfl))))
      pss_nil)
      (pss_one (ps_ret (pe_op op_sub (pe_fld (pv 0) rfl) (pe_ix ix_tup (pe_fld (pv 0) rfl) (pe_un un_neg pe_int) (fun _ _ => rfl)))))), ?_⟩
    obtain ⟨dx, t, h, h1, h2, h3⟩ := id C
    have hlast : vN (hds bs) = (vN ((List.range (nb bs)).map fun j => rk bs (256 * j))) ++ [.int (rk bs (256 * nb bs) : Nat)] := by
      simp [vN, hds, List.range_succ]
    refine ⟨_, rfl, rfl, _, rfl, iteDF (fun z => by cases (V.int.inj z)) ?_⟩
    refine ⟨_, rfl, a, cC K, dx, _, _, rfl, h1, T.c_Counts, T.n_Counts_all_many, cF_all_many _ _ _, _, rfl, a, cC K, dx, _, _, rfl, h1, T.c_Counts, T.n_Counts_heads, cF_heads _ _ _, 1, rfl, h, _, -1, _, rfl, rfl, SqT.of h3, by rw [hlast]; exact atI_last _ _, _, _, rfl, rfl, ?_⟩
    exact intE (by rw [rk_all bs (i := 256 * nb bs) (by unfold nb nw; omega), rk_all bs (i := bs.length) (Nat.le_refl _)]) k
end
end TW
/-! U4: walks (joined by mk.py). -/
namespace TW
open PySem PySem.Spec PyProof.Rows L2
section
variable {P : Program} {w : World} {K : PySem.W.Frag} {mg : Str → Option Value} {base : Heap}

theorem sc_C_BlockOf : FnScope ["self", "bit", "nth", "low", "high", "middle"] ["self", "bit", "nth"] (defScope sC_BlockOf) := ⟨rfl, rfl, rfl, by decide +kernel, rfl, by decide +kernel, by decide +kernel⟩
theorem ok_C_BlockOf (T : Txt K mg) (mCLikeAhead : Mt P w K mg base 1 (cC K) "like_ahead" (spLikeAhead K)) : Mt P w K mg base 2 (cC K) "block_of" (spBlockOf K) := by
  refine mt_of T.c_Counts T.m_Counts_block_of (fn_ok (N := ["self", "bit", "nth", "low", "high", "middle"]) T.f_C_BlockOf sc_C_BlockOf (fun vs H Q E h => ?_) (fun _ _ _ _ _ _ us hl => match us, hl with | [_, _, _], _ => rfl) (fun cdv A outer s H vs Q E hr h => ?_))
  · obtain ⟨a, bs, m, q, rfl, _⟩ := h
    rfl
  · obtain ⟨a, bs, m, q, rfl, C, hl, hq, hm, k⟩ := h
    refine ⟨_, (pss_cons (ps_set (i := 3) sc_C_BlockOf.nd rfl (Or.inl rfl) pe_int)
      (pss_cons (ps_set (i := 4) sc_C_BlockOf.nd rfl (Or.inl rfl) (pe_op op_sub (pe_callB call_len_seq (by rfl) T.z_len PySem.boot_len (pa_cons (pe_fld (pv 0) rfl) pa_nil)) pe_int))
      (pss_cons (ps_while PassesOwn.never (pt_cmpR op_gt (pe_op op_sub (pv 4) (pv 3)) pe_int (nomark _))
      (pss_cons (ps_set (i := 5) sc_C_BlockOf.nd rfl (Or.inl rfl) (pe_op op_fdiv (pe_op op_add (pv 3) (pv 4)) pe_int))
        (pss_one (ps_if (pt_cmpR op_le (pe_m mCLikeAhead hr (pv 0) (pa_cons (pv 1) (pa_cons (pv 5) pa_nil))) (pv 2) (nomark _))
        (pss_one (ps_set (i := 3) sc_C_BlockOf.nd rfl (Or.inl rfl) (pv 5)))
        (pss_one (ps_set (i := 4) sc_C_BlockOf.nd rfl (Or.inl rfl) (pv 5)))))))
      (pss_one (ps_ret (pv 3)))))), ?_⟩
    obtain ⟨dx, t, h, h1, h2, h3⟩ := id C
    have ql : q < bs.length := (List.getElem?_eq_some_iff.mp hq).1
    have qb : q / 256 < nb bs := by unfold nb nw; omega
    have eh : ((vN (hds bs)).length : Int) - 1 = ((nb bs : Nat) : Int) := by rw [hds_len]; omega
    refine ⟨_, rfl, a, cC K, dx, _, _, rfl, h1, T.c_Counts, T.n_Counts_heads, cF_heads _ _ _, h, _, rfl, .inr (SqT.of h3), _, _, rfl, rfl, ?_⟩
    refine ⟨fun n σ H' => ∃ (lo hi : Nat) (v5 : Option V), σ = [some (.ref a), some (.int 0), some (.int m), some (.int (lo : Nat)), some (.int (hi : Nat)), v5] ∧ lo ≤ q / 256 ∧ q / 256 < hi ∧ hi ≤ nb bs ∧ n = hi - lo ∧ H' = H,
      ⟨_, 0, nb bs, none, congrArg (fun z : Int => [some (V.ref a), some (V.int 0), some (V.int m), some (V.int 0), some (V.int z), none]) eh, Nat.zero_le _, qb, Nat.le_refl _, rfl, rfl⟩, ?_⟩
    rintro n σ H' ⟨lo, hi, v5, rfl, g1, g2, g3, rfl, rfl⟩
    refine ⟨_, rfl, _, rfl, _, _, rfl, rfl, _, _, rfl, rfl, _, rfl, ite2 (fun z => ?_) (fun z => ?_)⟩
    · have z1 : (1 : Int) < (hi : Int) - (lo : Int) := of_decide_eq_true z
      refine ⟨fun σ' H'' => ∃ (lo' hi' : Nat) (v5 : Option V), σ' = [some (.ref a), some (.int 0), some (.int m), some (.int (lo' : Nat)), some (.int (hi' : Nat)), v5] ∧ lo' ≤ q / 256 ∧ q / 256 < hi' ∧ hi' ≤ nb bs ∧ hi' - lo' < hi - lo ∧ H'' = H', fun σ' H'' ⟨lo', hi', v5', e, g4, g5, g6, g7, g8⟩ => ⟨_, g7, lo', hi', v5', e, g4, g5, g6, rfl, g8⟩, ?_⟩
      refine ⟨_, rfl, _, rfl, _, _, rfl, rfl, _, _, rfl, rfl, ⟨by decide, by decide⟩, ?_⟩
      dsimp only
      rw [show ((lo : Int) + (hi : Int)) / 2 = (((lo + hi) / 2 : Nat) : Int) by omega]
      refine ⟨_, rfl, a, dx, _, rfl, h1, cF_no (by decide +kernel) (by decide +kernel) (by decide +kernel), _, rfl, _, rfl, a, bs, (lo + hi) / 2, rfl, C, by omega, _, rfl, _, _, rfl, rfl, _, rfl, ite2 (fun y => ?_) (fun y => ?_)⟩
      · have y1 : 256 * (((lo + hi) / 2 : Nat) : Int) - (rk bs (256 * ((lo + hi) / 2)) : Int) ≤ m := of_decide_eq_true y
        refine ⟨_, rfl, (lo + hi) / 2, hi, _, rfl, ?_, g2, g3, by omega, rfl⟩
        by_cases c : (lo + hi) / 2 ≤ q / 256
        · exact c
        · have := z_lt hq (b := 256 * ((lo + hi) / 2)) (by omega)
          omega
      · have y1 : ¬ 256 * (((lo + hi) / 2 : Nat) : Int) - (rk bs (256 * ((lo + hi) / 2)) : Int) ≤ m := fun w => y (decide_eq_true w)
        refine ⟨_, rfl, lo, (lo + hi) / 2, _, rfl, g1, ?_, by omega, by omega, rfl⟩
        by_cases c : q / 256 < (lo + hi) / 2
        · exact c
        · have := z_mono bs (a := 256 * ((lo + hi) / 2)) (b := q) (by omega)
          omega
    · have z1 : ¬ (1 : Int) < (hi : Int) - (lo : Int) := fun w => z (decide_eq_true w)
      refine ⟨_, rfl, ?_⟩
      have e : lo = q / 256 := by omega
      rw [e]
      exact k _ (Same.refl _)
theorem sc_C_PlaceOf : FnScope ["self", "bit", "nth", "word", "left", "had"] ["self", "bit", "nth"] (defScope sC_PlaceOf) := ⟨rfl, rfl, rfl, by decide +kernel, rfl, by decide +kernel, by decide +kernel⟩
theorem ok_C_PlaceOf (T : Txt K mg) (cIsWholeC : Cl P w K mg base 1 "is_whole_counts" spIsWhole) (cNeedBit : Cl P w K mg base 2 "need_bit" spNeedBit) (cNthOne : Cl P w K mg base 2 "nth_one" spNthOne) (cOnesIn : Cl P w K mg base 1 "ones_in" spOnesIn) (mCAllLike : Mt P w K mg base 1 (cC K) "all_like" (spAllLike K)) (mCBlockOf : Mt P w K mg base 2 (cC K) "block_of" (spBlockOf K)) (mCLike : Mt P w K mg base 1 (cC K) "like" (spLike K)) (mCLikeAhead : Mt P w K mg base 1 (cC K) "like_ahead" (spLikeAhead K)) : Mt P w K mg base 3 (cC K) "place_of" (spPlaceOf K) := by
  obtain ⟨_, i_BLOCK⟩ := T.i_BLOCK
  obtain ⟨_, i_WORD_words⟩ := T.i_WORD_words
  refine mt_of T.c_Counts T.m_Counts_place_of (fn_ok (N := ["self", "bit", "nth", "word", "left", "had"]) T.f_C_PlaceOf sc_C_PlaceOf (fun vs H Q E h => ?_) (fun _ _ _ _ _ _ us hl => match us, hl with | [_, _, _], _ => rfl) (fun cdv A outer s H vs Q E hr h => ?_))
  · obtain ⟨a, bs, m, q, rfl, _⟩ := h
    rfl
  · obtain ⟨a, bs, m, q, rfl, C, hl, hq, hm, k⟩ := h
    refine ⟨_, (pss_cons (ps_expr (pe_c cNeedBit hr (pa_cons (pv 1) pa_nil)))
      (pss_cons (ps_if (PW.pt (pw_or (pt_not (pt_val (pe_c cIsWholeC hr (pa_cons (pv 2) pa_nil)))) (pw_or (pt_cmpR op_lt (pv 2) pe_int (nomark _)) (pw_or1 (pt_cmpR op_ge (pv 2) (pe_m mCAllLike hr (pv 0) (pa_cons (pv 1) pa_nil)) (nomark _))))))
      pss_never
      pss_nil)
      (pss_cons (ps_set (i := 3) sc_C_PlaceOf.nd rfl (Or.inl rfl) (pe_op op_mul (pe_m mCBlockOf hr (pv 0) (pa_cons (pv 1) (pa_cons (pv 2) pa_nil))) (pe_gi (by rfl) i_BLOCK)))
      (pss_cons (ps_set (i := 4) sc_C_PlaceOf.nd rfl (Or.inl rfl) (pe_op op_sub (pv 2) (pe_m mCLikeAhead hr (pv 0) (pa_cons (pv 1) (pa_cons (pe_op op_fdivN (pv 3) (pe_gi (by rfl) i_BLOCK)) pa_nil)))))
      (pss_cons (ps_set (i := 5) sc_C_PlaceOf.nd rfl (Or.inl rfl) (pe_c cOnesIn hr (pa_cons (pe_m mCLike hr (pv 0) (pa_cons (pv 3) (pa_cons (pv 1) pa_nil))) pa_nil)))
      (pss_cons (ps_while PassesOwn.never (pt_cmpR op_le (pv 5) (pv 4) (nomark _))
      (pss_cons (ps_set (i := 4) sc_C_PlaceOf.nd rfl (Or.inl rfl) (pe_op op_sub (pv 4) (pv 5)))
        (pss_cons (ps_aug (i := 3) sc_C_PlaceOf.nd rfl (Or.inl rfl) pe_int ip_add)
        (pss_one (ps_set (i := 5) sc_C_PlaceOf.nd rfl (Or.inl rfl) (pe_c cOnesIn hr (pa_cons (pe_m mCLike hr (pv 0) (pa_cons (pv 3) (pa_cons (pv 1) pa_nil))) pa_nil)))))))
      (pss_one (ps_ret (pe_op op_add (pe_op op_mul (pv 3) (pe_gi (by rfl) i_WORD_words)) (pe_c cNthOne hr (pa_cons (pe_m mCLike hr (pv 0) (pa_cons (pv 3) (pa_cons (pv 1) pa_nil))) (pa_cons (pv 4) pa_nil)))))))))))), ?_⟩
    have ql : q < bs.length := (List.getElem?_eq_some_iff.mp hq).1
    have qw : q / 32 < nw bs := by unfold nw; omega
    have qb : q / 256 < nb bs := by unfold nb nw; omega
    have m0 : 0 ≤ m := by have := rk_le bs q; omega
    have m1 : m < (bs.length : Int) - (rk bs bs.length : Int) := by have := z_lt hq ql; omega
    refine ⟨_, rfl, false, rfl, fun H1 s1 => ?_⟩
    have C1 := C.mono s1
    obtain ⟨dx, t, h, h1, h2, h3⟩ := id C1
    refine ⟨_, rfl, _, rfl, true, rfl, iteF ⟨_, rfl, _, _, rfl, rfl, _, rfl, iteDF (by omega) ⟨_, rfl, _, rfl, a, dx, _, rfl, h1, cF_no (by decide +kernel) (by decide +kernel) (by decide +kernel), _, rfl, a, bs, rfl, C1, _, _, rfl, rfl, _, rfl, iteDF (by omega) ?_⟩⟩⟩
    refine ⟨_, rfl, a, dx, _, rfl, h1, cF_no (by decide +kernel) (by decide +kernel) (by decide +kernel), _, rfl, _, rfl, a, bs, m, q, rfl, C1, hl, hq, hm, fun H2 s2 => ?_⟩
    have C2 := C1.mono s2
    have s12 := s1.trans s2
    clear h1 h2 h3
    obtain ⟨dx, t, h, h1, h2, h3⟩ := id C2
    refine ⟨_, _, rfl, rfl, .inr ⟨by decide, by decide⟩, ?_⟩
    dsimp only
    rw [show ((q / 256 : Nat) : Int) * 8 = ((8 * (q / 256) : Nat) : Int) by omega]
    have e8 : Int.fdiv ((8 * (q / 256) : Nat) : Int) 8 = ((q / 256 : Nat) : Int) := by
      rw [show (8 : Int) = ((8 : Nat) : Int) from rfl, fdivN]
      congr 1
      omega
    refine ⟨_, rfl, _, rfl, a, dx, _, rfl, h1, cF_no (by decide +kernel) (by decide +kernel) (by decide +kernel), _, rfl, _, rfl, _, _, rfl, rfl, ⟨by decide, by decide⟩, a, bs, q / 256, congrArg (fun z => [V.ref a, V.int 0, V.int z]) e8, C2, by omega, _, _, rfl, rfl, ?_⟩
    dsimp only
    rw [show m - (256 * ((q / 256 : Nat) : Int) - (rk bs (256 * (q / 256)) : Int)) = m - (((32 * (8 * (q / 256)) : Nat) : Int) - (rk bs (32 * (8 * (q / 256))) : Int)) by rw [show 32 * (8 * (q / 256)) = 256 * (q / 256) by omega]; omega]
    refine ⟨_, rfl, a, dx, _, rfl, h1, cF_no (by decide +kernel) (by decide +kernel) (by decide +kernel), _, rfl, _, rfl, a, bs, 8 * (q / 256), rfl, C2, by omega, _, rfl, Nat.le_of_eq (lk_len _ _), ?_⟩
    refine ⟨fun n σ H' => ∃ j : Nat, σ = [some (.ref a), some (.int 0), some (.int m), some (.int (j : Nat)), some (.int (m - (((32 * j : Nat) : Int) - (rk bs (32 * j) : Int)))), some (.int ((lk bs j).count true : Nat))] ∧ j ≤ q / 32 ∧ n = q / 32 - j ∧ H' = H2,
      ⟨_, 8 * (q / 256), rfl, by omega, rfl, rfl⟩, ?_⟩
    rintro n σ H' ⟨j, rfl, hj, rfl, rfl⟩
    refine ⟨_, rfl, _, rfl, _, _, rfl, rfl, _, rfl, ite2 (fun z => ?_) (fun z => ?_)⟩
    · have z1 : ((lk bs j).count true : Int) ≤ m - (((32 * j : Nat) : Int) - (rk bs (32 * j) : Int)) := of_decide_eq_true z
      have jlt : j < q / 32 := by
        by_cases c : j < q / 32
        · exact c
        · have ej : j = q / 32 := by omega
          subst ej
          obtain ⟨l1, l2⟩ := lk_at hq
          have l3 := count_gt l1
          omega
      have full := lk_full (bs := bs) (j := j) (by omega)
      refine ⟨fun σ' H'' => σ' = [some (.ref a), some (.int 0), some (.int m), some (.int ((j + 1 : Nat) : Int)), some (.int (m - (((32 * (j + 1) : Nat) : Int) - (rk bs (32 * (j + 1)) : Int)))), some (.int ((lk bs (j + 1)).count true : Nat))] ∧ H'' = H', fun σ' H'' ⟨e1, e2⟩ => ⟨_, (by omega : q / 32 - (j + 1) < q / 32 - j), j + 1, e1, by omega, rfl, e2⟩, ?_⟩
      refine ⟨_, rfl, _, rfl, _, _, rfl, rfl, ?_⟩
      dsimp only
      rw [show m - (((32 * j : Nat) : Int) - (rk bs (32 * j) : Int)) - ((lk bs j).count true : Int) = m - (((32 * (j + 1) : Nat) : Int) - (rk bs (32 * (j + 1)) : Int)) by omega]
      refine ⟨_, rfl, _, _, rfl, rfl, ?_⟩
      dsimp only
      rw [show (j : Int) + 1 = ((j + 1 : Nat) : Int) by omega]
      exact ⟨_, rfl, a, dx, _, rfl, h1, cF_no (by decide +kernel) (by decide +kernel) (by decide +kernel), _, rfl, _, rfl, a, bs, j + 1, rfl, C2, by omega, _, rfl, Nat.le_of_eq (lk_len _ _), rfl, rfl⟩
    · have z1 : ¬ ((lk bs j).count true : Int) ≤ m - (((32 * j : Nat) : Int) - (rk bs (32 * j) : Int)) := fun w => z (decide_eq_true w)
      have ej : j = q / 32 := by
        by_cases c : j < q / 32
        · have full := lk_full (bs := bs) (j := j) (by omega)
          have := z_mono bs (a := 32 * (j + 1)) (b := q) (by omega)
          omega
        · omega
      subst ej
      obtain ⟨l1, l2⟩ := lk_at hq
      have el : m - (((32 * (q / 32) : Nat) : Int) - (rk bs (32 * (q / 32)) : Int)) = ((((lk bs (q / 32)).take (q % 32)).count true : Nat) : Int) := by omega
      refine ⟨_, rfl, _, _, rfl, rfl, .inr ⟨by decide, by decide⟩, _, rfl, a, dx, _, rfl, h1, cF_no (by decide +kernel) (by decide +kernel) (by decide +kernel), _, rfl, _, rfl, a, bs, q / 32, rfl, C2, by omega, _, rfl, lk bs (q / 32), _, q % 32, congrArg (fun z => [V.int (wordOf (lk bs (q / 32)) : Nat), V.int z]) el, Nat.le_of_eq (lk_len _ _), l1, rfl, _, _, rfl, rfl, ?_⟩
      exact intE (by omega) (k _ s12)
end
end TW
/-! U5: walks (joined by mk.py). -/
namespace TW
open PySem PySem.Spec PyProof.Rows L2
section
variable {P : Program} {w : World} {K : PySem.W.Frag} {mg : Str → Option Value} {base : Heap}

theorem int_sign (b : Bool) : PySem.intText? (⟨#[sgn b]⟩ : Str) = some (b.toNat : Int) := by cases b <;> decide +kernel
theorem in01 (b : Bool) : sgn b ∈ ("01" : Str).cps.toList := by cases b <;> decide +kernel
theorem ht_sgn {bs : List Bool} {i : Nat} {b : Bool} (h : bs[i]? = some b) : ht bs i + 2 * ((b.toNat : Nat) : Int) - 1 = ht bs (i + 1) := by
  rw [ht_succ h]
  omega
theorem sign_at {bs : List Bool} {i c : Nat} (h : (tx bs).cps[i]? = some c) : ∃ b, bs[i]? = some b ∧ c = sgn b := by
  obtain ⟨b, h1, h2, _⟩ := take_sign h
  exact ⟨b, h1, h2⟩
theorem slice_at (bs : List Bool) (i m j : Nat) (h : j < m) : ((bs.drop i).take m)[j]? = bs[i + j]? := by
  rw [List.getElem?_take_of_lt h, List.getElem?_drop]
theorem sc_AskRow : FnScope ["text", "height", "place", "sign"] ["text"] (defScope sAskRow) := ⟨rfl, rfl, rfl, by decide +kernel, rfl, by decide +kernel, by decide +kernel⟩
theorem ok_AskRow (T : Txt K mg)  : Cl P w K mg base 1 "ask_row" spAskRow := by
  obtain ⟨_, i_MOST_pairs⟩ := T.i_MOST_pairs
  refine cl_of T.g_ask_row (fn_ok (N := ["text", "height", "place", "sign"]) T.f_AskRow sc_AskRow (fun vs H Q E h => ?_) (fun _ _ _ _ _ _ us hl => match us, hl with | [_], _ => rfl) (fun cdv A outer s H vs Q E hr h => ?_))
  · obtain ⟨bs, rfl, _⟩ := h
    rfl
  · obtain ⟨bs, rfl, hl, h0, he, k⟩ := h
    refine ⟨_, (pss_cons (ps_if (pt_not (pt_val (pe_isi (T := "str") T.z_isinstance T.z_str (pv 0))))
      pss_never
      pss_nil)
      (pss_cons (ps_set (i := 1) sc_AskRow.nd rfl (Or.inl rfl) pe_int)
      (pss_cons (ps_for PassesOwn.never rfl (pi_enumS (by rfl) T.z_enumerate (pa_cons (pv 0) pa_nil)) (pg_tup rfl (pgs_cons (pg_name (i := 2) sc_AskRow.nd rfl (Or.inl rfl)) (pgs_cons (pg_name (i := 3) sc_AskRow.nd rfl (Or.inl rfl)) pgs_nil)))
      (pss_cons (ps_if (PW.pt (pw_or (pt_cmpR op_eq (pv 2) (pe_gi (by rfl) i_MOST_pairs) (nomark _)) (pw_or1 (pt_cmpR op_notIn_sign (pv 3) pe_str rfl))))
        pss_never
        pss_nil)
        (pss_cons (ps_set (i := 1) sc_AskRow.nd rfl (Or.inl rfl) (pe_op op_sub (pe_op op_add (pv 1) (pe_op op_mul pe_int (pe_callTy call_int_str (by rfl) T.z_int (by decide +kernel) (pa_cons (pv 3) pa_nil)))) pe_int))
        (pss_one (ps_if (pt_cmpR op_lt (pv 1) pe_int (nomark _))
        pss_never
        pss_nil)))))
      (pss_one (ps_if (pt_cmpR op_gt (pv 1) pe_int (nomark _))
      pss_never
      pss_nil))))), ?_⟩
    refine ⟨_, rfl, isi_str_str _ ⟨true, rfl, iteF ?_⟩⟩
    refine ⟨_, rfl, _, rfl, for_it (walk_enumS (x := tx bs)) (fun i σ H' => ∃ v2 v3, σ = [some (.str (tx bs)), some (.int (ht bs i)), v2, v3] ∧ Same H H') ⟨_, _, by rw [ht_zero]; rfl, Same.refl _⟩ (fun _ _ _ _ _ => trivial) ?_ ?_⟩
    · rintro i x σ H1 H2 hi ⟨v2, v3, rfl, s1⟩ ⟨T', c, rfl, nT, rfl, hc⟩
      rw [tx_size] at hi
      obtain ⟨b, hb, rfl⟩ := sign_at hc
      have s2 : Same H (upd H1 T' (.tup [.int (i : Nat), .str ⟨#[sgn b]⟩])) := s1.trans (same_new nT)
      refine ⟨T', _, rfl, .inl (.inl upd_same), rfl, _, _, rfl, _, _, rfl, rfl, ?_⟩
      refine ⟨_, rfl, rfl, _, rfl, iteDF (fun z => by have := V.int.inj z; omega) ⟨_, rfl, _, _, rfl, rfl, _, rfl, iteNS (in01 b) ?_⟩⟩
      refine ⟨_, rfl, _, rfl, _, _, rfl, int_sign b, (by show 1 ≤ 640; decide), _, _, rfl, rfl, .inl ⟨by decide, by decide⟩, _, _, rfl, rfl, _, _, rfl, rfl, ?_⟩
      dsimp only
      rw [ht_sgn hb]
      refine ⟨_, rfl, _, _, rfl, rfl, _, rfl, iteDF (by have := h0 (i + 1) (by omega); omega) ?_⟩
      exact ⟨_, _, rfl, s2⟩
    · rintro σ H1 ⟨v2, v3, rfl, s1⟩
      rw [tx_size, he]
      exact ⟨_, rfl, _, _, rfl, rfl, _, rfl, iteDF (by decide) (k _ s1)⟩
theorem sc_TableOf : FnScope ["text", "found", "height", "start", "begin", "heights", "sign"] ["text"] (defScope sTableOf) := ⟨rfl, rfl, rfl, by decide +kernel, rfl, by decide +kernel, by decide +kernel⟩
theorem ok_TableOf (T : Txt K mg)  : Cl P w K mg base 1 "table_of" spTableOf := by
  obtain ⟨_, i_STRETCH⟩ := T.i_STRETCH
  refine cl_of T.g_table_of (fn_ok (N := ["text", "found", "height", "start", "begin", "heights", "sign"]) T.f_TableOf sc_TableOf (fun vs H Q E h => ?_) (fun _ _ _ _ _ _ us hl => match us, hl with | [_], _ => rfl) (fun cdv A outer s H vs Q E hr h => ?_))
  · obtain ⟨bs, rfl, _⟩ := h
    rfl
  · obtain ⟨bs, rfl, hl, k⟩ := h
    refine ⟨_, (pss_cons (ps_set (i := 1) sc_TableOf.nd rfl (Or.inl rfl) (pe_lst pa_nil))
      (pss_cons (ps_set (i := 2) sc_TableOf.nd rfl (Or.inl rfl) pe_int)
      (pss_cons (ps_for PassesOwn.never rfl (pi_range3 (by rfl) T.z_range (pa_cons pe_int (pa_cons (pe_callB call_len_str (by rfl) T.z_len PySem.boot_len (pa_cons (pv 0) pa_nil)) (pa_cons (pe_gi (by rfl) i_STRETCH) pa_nil)))) (pg_name (i := 3) sc_TableOf.nd rfl (Or.inl rfl))
      (pss_cons (ps_set (i := 4) sc_TableOf.nd rfl (Or.inl rfl) (pv 2))
        (pss_cons (ps_set (i := 5) sc_TableOf.nd rfl (Or.inl rfl) (pe_lst pa_nil))
        (pss_cons (ps_for PassesOwn.never rfl (pi_str (pe_slice sl_str (pv 0) (po_some (pv 3)) (po_some (pe_op op_add (pv 3) (pe_gi (by rfl) i_STRETCH))))) (pg_name (i := 6) sc_TableOf.nd rfl (Or.inl rfl))
        (pss_cons (ps_set (i := 2) sc_TableOf.nd rfl (Or.inl rfl) (pe_op op_sub (pe_op op_add (pv 2) (pe_op op_mul pe_int (pe_callTy call_int_str (by rfl) T.z_int (by decide +kernel) (pa_cons (pv 6) pa_nil)))) pe_int))
          (pss_one (ps_expr (pe_bm PySem.F.plainAttrs_list PySem.F.slot_list_append PySem.F.type_list_append mt_append (pv 5) (pa_cons (pv 2) pa_nil))))))
        (pss_one (ps_expr (pe_bm PySem.F.plainAttrs_list PySem.F.slot_list_append PySem.F.type_list_append mt_append (pv 1) (pa_cons (pe_tup (pa_cons (pv 4) (pa_cons (pe_callB (cr_min rfl) (by rfl) T.z_min (by decide +kernel) (pa_cons (pv 5) pa_nil)) (pa_cons (pe_callB (cr_max rfl) (by rfl) T.z_max (by decide +kernel) (pa_cons (pv 5) pa_nil)) pa_nil)))) pa_nil))))))))
      (pss_one (ps_ret (pe_callTy call_tuple_of (by rfl) T.z_tuple (by decide +kernel) (pa_cons (pv 1) pa_nil))))))), ?_⟩
    refine ⟨Nat.zero_le _, fun o no => ?_⟩
    have sz : (tx bs).length ≤ sizeLine := by rw [tx_len]; exact sl_20 (by omega)
    refine ⟨_, rfl, _, rfl, sz, _, _, _, (bs.length + 255) / 256, rfl, (by rw [tx_len]; exact rgc_up (n := bs.length) (c := 256) (by omega) (by decide) (by decide)),
      for_rangeC (lo := 0) (c := 256) (n := (bs.length + 255) / 256) (fun i σ H' => ∃ (v3 v4 v5 v6 : Option V) (rs : List Addr), σ = [some (.str (tx bs)), some (.ref o), some (.int (ht bs (min (256 * i) bs.length))), v3, v4, v5, v6] ∧ Same H H' ∧ H' o = some (.lst (rs.map V.ref)) ∧ rs.length = i ∧
        ∀ s r, rs[s]? = some r → ∃ b lo hi : Int, H' r = some (.tup [.int b, .int lo, .int hi]) ∧ ∀ i, 256 * s < i → i ≤ 256 * (s + 1) → i ≤ bs.length → lo ≤ ht bs i ∧ ht bs i ≤ hi)
      ⟨_, _, _, _, [], by rw [Nat.mul_zero, Nat.zero_min, ht_zero]; rfl, same_new no, upd_same, rfl, fun s r e => by simp at e⟩ ?_ ?_⟩
    · rintro i σ H1 hi ⟨v3, v4, v5, v6, rs, rfl, s1, h1, hlen, hrs⟩
      have ilt : 256 * i < bs.length := by omega
      rw [Nat.min_eq_left (by omega)]
      have ecut : cutS (tx bs) (some (0 + (i : Int) * 256)) (some (0 + (i : Int) * 256 + 256)) = tx ((bs.drop (256 * i)).take 256) := cut_tx bs (i := 256 * i) (m := 256) (by omega) (by omega)
      refine ⟨_, rfl, Nat.zero_le _, fun hA nA => ?_⟩
      have noA : o ≠ hA := ne_of_none h1 nA
      refine ⟨_, rfl, _, rfl, _, rfl, _, rfl, _, _, rfl, rfl, _, rfl, _, rfl, sz, _, rfl, ?_⟩
      rw [ecut]
      refine for_it (walk_str (z := tx ((bs.drop (256 * i)).take 256))) (fun m σ H' => ∃ v6, σ = [some (.str (tx bs)), some (.ref o), some (.int (ht bs (256 * i + m))), some (.int (0 + (i : Int) * 256)), some (.int (ht bs (256 * i))), some (.ref hA), v6] ∧ Same H1 H' ∧ H' hA = some (.lst (vI ((List.range m).map fun j => ht bs (256 * i + j + 1)))))
        ⟨_, rfl, same_new nA, upd_same⟩ (fun _ _ _ _ _ => trivial) ?_ ?_
      · rintro m x σ H2 H3 hm ⟨v6, rfl, s2, h2⟩ ⟨rfl, c, hc, rfl⟩
        rw [tx_size] at hm
        obtain ⟨b, hb, rfl⟩ := sign_at hc
        have hm2 : m < 256 := by rw [List.length_take] at hm; omega
        rw [slice_at _ _ _ _ hm2] at hb
        refine ⟨_, rfl, _, rfl, _, _, rfl, int_sign b, (by show 1 ≤ 640; decide), _, _, rfl, rfl, .inl ⟨by decide, by decide⟩, _, _, rfl, rfl, _, _, rfl, rfl, ?_⟩
        dsimp only
        rw [ht_sgn hb]
        refine ⟨_, rfl, .inl ⟨rfl, _, SqL.of h2⟩, _, rfl, hA, _, _, rfl, rfl, h2, ?_, _, rfl, fun z w e => ?_, ?_⟩
        · simp only [vI, List.length_map, List.length_range]
          exact sl_20' (by omega)
        · rw [upd_ne (ne_of_none e nA)]
          exact s2 _ _ e
        · rw [upd_same, List.range_succ]
          simp [vI]
      · rintro σ H2 ⟨v6, rfl, s2, h2⟩
        have el : (tx ((bs.drop (256 * i)).take 256)).cps.size = min 256 (bs.length - 256 * i) := by
          rw [tx_size, List.length_take, List.length_drop]
        rw [el] at h2 ⊢
        have h3 := s2 _ _ h1
        refine ⟨_, rfl, .inl ⟨rfl, _, SqL.of h3⟩, _, rfl, _, rfl, hA, _, rfl, SqL.of h2, (by simp; omega), fun lo _ hlo => ⟨_, rfl, hA, _, rfl, SqL.of h2, (by simp; omega), fun hi' _ hhi => ⟨(show 3 ≤ sizeLine by decide), fun r nr => ?_⟩⟩⟩
        have nro : o ≠ r := ne_of_none h3 nr
        have h4 : (upd H2 r (.tup [.int (ht bs (256 * i)), .int lo, .int hi'])) o = some (.lst (rs.map V.ref)) := (upd_ne nro).trans h3
        refine ⟨o, _, _, rfl, rfl, h4, ?_, some (.int (0 + (i : Int) * 256)), some (.int (ht bs (256 * i))), some (.ref hA), v6, rs ++ [r], ?_, fun z w e => ?_, ?_, by simp [hlen], fun s r' e => ?_⟩
        · rw [List.length_map]
          exact sl_20' (by omega)
        · rw [show min (256 * (i + 1)) bs.length = 256 * i + min 256 (bs.length - 256 * i) by omega]
        · have e2 := s2 _ _ (s1 _ _ e)
          rw [upd_ne (ne_of_none e no), upd_ne (ne_of_none e2 nr)]
          exact e2
        · rw [upd_same] <;> simp
        · by_cases c : s < rs.length
          · rw [List.getElem?_append_left c] at e
            obtain ⟨b, lo2, hi2, h5, h6⟩ := hrs s r' e
            have h7 := s2 _ _ h5
            exact ⟨b, lo2, hi2, by rw [upd_ne (ne_of h7 h3 (by intro q; cases q)), upd_ne (ne_of_none h7 nr)]; exact h7, h6⟩
          · rw [List.getElem?_append_right (by omega)] at e
            have c2 : s = i := by
              have := (List.getElem?_eq_some_iff.mp e).1
              simp at this
              omega
            subst c2
            rw [hlen, Nat.sub_self] at e
            have e3 : r = r' := by simpa using e
            subst e3
            refine ⟨_, lo, hi', by rw [upd_ne nro.symm, upd_same], fun j j1 j2 j3 => ?_⟩
            have hm : ht bs j ∈ (List.range (min 256 (bs.length - 256 * s))).map fun j => ht bs (256 * s + j + 1) := by
              rw [List.mem_map]
              exact ⟨j - 256 * s - 1, List.mem_range.mpr (by omega), by rw [show 256 * s + (j - 256 * s - 1) + 1 = j by omega]⟩
            exact ⟨hlo _ hm, hhi _ hm⟩
    · rintro σ H1 ⟨v3, v4, v5, v6, rs, rfl, s1, h1, hlen, hrs⟩
      refine ⟨_, rfl, o, _, rfl, .inl ⟨SqL.of h1, fun l nl => ?_⟩⟩
      refine k _ l (s1.trans (same_new nl)) ⟨rs, upd_same, hlen, fun s r e => ?_⟩
      obtain ⟨b, lo, hi, h5, h6⟩ := hrs s r e
      exact ⟨b, lo, hi, by rw [upd_ne (ne_of_none h5 nl)]; exact h5, h6⟩
theorem CntAt.but {K : PySem.W.Frag} {H H' : Hp} {a p : Addr} {C dx : Addr} {fs : List (Str × V)} {bs : List Bool} (h : CntAt K H a bs) (s : But p H H') (hp : H p = some (.ins C dx fs)) (ha : a ≠ p) : CntAt K H' a bs := by
  obtain ⟨dx', t, u, h1, h2, h3⟩ := h
  exact ⟨dx', t, u, s _ _ h1 ha, s _ _ h2 (ne_of h2 hp (by intro z; cases z)), s _ _ h3 (ne_of h3 hp (by intro z; cases z))⟩
theorem TabAt.but {H H' : Hp} {l p : Addr} {C dx : Addr} {fs : List (Str × V)} {bs : List Bool} (h : TabAt H l bs) (s : But p H H') (hp : H p = some (.ins C dx fs)) : TabAt H' l bs := by
  obtain ⟨rs, h1, h2, h3⟩ := h
  refine ⟨rs, s _ _ h1 (ne_of h1 hp (by intro z; cases z)), h2, fun j r e => ?_⟩
  obtain ⟨b, lo, hi, h4, h5⟩ := h3 j r e
  exact ⟨b, lo, hi, s _ _ h4 (ne_of h4 hp (by intro z; cases z)), h5⟩
theorem BitsAt.but' {K : PySem.W.Frag} {H H' : Hp} {a t p : Addr} {C dx : Addr} {fs : List (Str × V)} {bs : List Bool} (h : BitsAt K H a t bs) (s : But p H H') (hp : H p = some (.ins C dx fs)) (ha : a ≠ p) : BitsAt K H' a t bs := by
  obtain ⟨⟨dx', h1⟩, h2⟩ := h
  exact ⟨⟨dx', s _ _ h1 ha⟩, s _ _ h2 (ne_of h2 hp (by intro z; cases z))⟩
theorem but_upd' {p : Addr} {H : Hp} {o : HO} : But p H (upd H p o) := fun b x e nb => by
  rw [upd_ne nb]
  exact e
theorem sc_P_Init : FnScope ["self", "text"] ["self", "text"] (defScope sP_Init) := ⟨rfl, rfl, rfl, by decide +kernel, rfl, by decide +kernel, by decide +kernel⟩
theorem ok_P_Init (T : Txt K mg) (cAskRow : Cl P w K mg base 1 "ask_row" spAskRow) (cTableOf : Cl P w K mg base 1 "table_of" spTableOf) (kB : Mkk P w K mg base 2 "Bits" (cB K) (spBInit K)) (kC : Mkk P w K mg base 2 "Counts" (cC K) (spCInit K)) (mBWords : Mt P w K mg base 1 (cB K) "words" (spBWords K)) : Mkk P w K mg base 4 "Pairs" (cP K) (spPInit K) := by
  refine mk_of T.k_Pairs T.g_Pairs (fn_ok (N := ["self", "text"]) T.f_P_Init sc_P_Init (fun vs H Q E h => ?_) (fun _ _ _ _ _ _ us hl => match us, hl with | [_, _], _ => rfl) (fun cdv A outer s H vs Q E hr h => ?_))
  · obtain ⟨p, dx, bs, rfl, _⟩ := h
    rfl
  · obtain ⟨p, dx, bs, rfl, hp, hl, h0, he, k⟩ := h
    refine ⟨_, (pss_cons (ps_expr (pe_c cAskRow hr (pa_cons (pv 1) pa_nil)))
      (pss_cons (ps_fld (pv 0) (pe_mk kB hr (pa_cons (pv 1) pa_nil)) rfl)
      (pss_cons (ps_fld (pv 0) (pe_m0' mBWords hr (pe_fld (pv 0) rfl)) rfl)
      (pss_cons (ps_fld (pv 0) (pe_mk kC hr (pa_cons (pe_fld (pv 0) rfl) pa_nil)) rfl)
      (pss_one (ps_fld (pv 0) (pe_c cTableOf hr (pa_cons (pv 1) pa_nil)) rfl)))))), ?_⟩
    refine ⟨_, rfl, bs, rfl, hl, h0, he, fun H1 s1 => ?_⟩
    have hp1 := s1 _ _ hp
    -- self.bits
    refine ⟨_, rfl, fun x dx1 nx ndx nex => ⟨x, dx1, bs, rfl, upd_same, by omega, fun H2 t B2 but2 => ⟨rfl, ?_⟩⟩⟩
    have s2 : Same H1 H2 := Same.made nx ndx but2
    have hp2 := s2 _ _ hp1
    have npx : x ≠ p := (ne_of_none hp1 nx).symm
    refine ⟨_, rfl, p, cP K, dx, _, rfl, hp2, T.c_Pairs, T.n_Pairs_bits, few0, ?_⟩
    have B3 := B2.but' (but_upd' (o := .ins (cP K) dx (putF "bits" (.ref x) []))) hp2 npx
    have hp3 : (upd H2 p (.ins (cP K) dx (putF "bits" (.ref x) []))) p = some (.ins (cP K) dx (putF "bits" (.ref x) [])) := upd_same
    have b3 : But p H (upd H2 p (.ins (cP K) dx (putF "bits" (.ref x) []))) := fun b o e nb => by
      rw [upd_ne nb]
      exact s2 _ _ (s1 _ _ e)
    generalize (upd H2 p (.ins (cP K) dx (putF "bits" (.ref x) []))) = H3 at B3 hp3 b3 ⊢
    -- self.kept
    obtain ⟨⟨dxb, hb1⟩, hb2⟩ := id B3
    refine ⟨_, rfl, p, cP K, dx, _, _, rfl, hp3, T.c_Pairs, T.n_Pairs_bits, by rw [lookup_putF, if_pos rfl], x, dxb, _, rfl, hb1, bF_no (by decide +kernel) (by decide +kernel), x, t, bs, rfl, B3, ?_⟩
    refine ⟨_, rfl, p, cP K, dx, _, rfl, hp3, T.c_Pairs, T.n_Pairs_kept, few1, ?_⟩
    have B4 := B3.but' (but_upd' (o := .ins (cP K) dx (putF "kept" (.ref t) (putF "bits" (.ref x) [])))) hp3 npx
    have hp4 : (upd H3 p (.ins (cP K) dx (putF "kept" (.ref t) (putF "bits" (.ref x) [])))) p = some (.ins (cP K) dx (putF "kept" (.ref t) (putF "bits" (.ref x) []))) := upd_same
    have b4 : But p H (upd H3 p (.ins (cP K) dx (putF "kept" (.ref t) (putF "bits" (.ref x) [])))) := fun b o e nb => by
      rw [upd_ne nb]
      exact b3 _ _ e nb
    generalize (upd H3 p (.ins (cP K) dx (putF "kept" (.ref t) (putF "bits" (.ref x) [])))) = H4 at B4 hp4 b4 ⊢
    -- self.counts
    refine ⟨_, rfl, p, cP K, dx, _, _, rfl, hp4, T.c_Pairs, T.n_Pairs_bits, by rw [lookup_putF, if_neg (by decide +kernel), lookup_putF, if_pos rfl], fun y dy ny ndy ney => ⟨y, dy, x, t, bs, rfl, upd_same, ?_, by omega, fun H5 C5 but5 => ⟨rfl, ?_⟩⟩⟩
    · refine B4.mono fun b o e => ?_
      rw [upd_ne (ne_of_none e ny), upd_ne (ne_of_none e ndy)]
      exact e
    have s5 : Same H4 H5 := Same.made ny ndy but5
    have hp5 := s5 _ _ hp4
    have B5 := B4.mono s5
    have npy : y ≠ p := (ne_of_none hp4 ny).symm
    refine ⟨_, rfl, p, cP K, dx, _, rfl, hp5, T.c_Pairs, T.n_Pairs_counts, few2, ?_⟩
    have B6 := B5.but' (but_upd' (o := .ins (cP K) dx (putF "counts" (.ref y) (putF "kept" (.ref t) (putF "bits" (.ref x) []))))) hp5 npx
    have C6 := C5.but (but_upd' (o := .ins (cP K) dx (putF "counts" (.ref y) (putF "kept" (.ref t) (putF "bits" (.ref x) []))))) hp5 npy
    have hp6 : (upd H5 p (.ins (cP K) dx (putF "counts" (.ref y) (putF "kept" (.ref t) (putF "bits" (.ref x) []))))) p = some (.ins (cP K) dx (putF "counts" (.ref y) (putF "kept" (.ref t) (putF "bits" (.ref x) [])))) := upd_same
    have b6 : But p H (upd H5 p (.ins (cP K) dx (putF "counts" (.ref y) (putF "kept" (.ref t) (putF "bits" (.ref x) []))))) := fun b o e nb => by
      rw [upd_ne nb]
      exact s5 _ _ (b4 _ _ e nb)
    generalize (upd H5 p (.ins (cP K) dx (putF "counts" (.ref y) (putF "kept" (.ref t) (putF "bits" (.ref x) []))))) = H6 at B6 C6 hp6 b6 ⊢
    -- self.laid
    refine ⟨_, rfl, bs, rfl, hl, fun H7 l s7 tab => ?_⟩
    have hp7 := s7 _ _ hp6
    refine ⟨_, rfl, p, cP K, dx, _, rfl, hp7, T.c_Pairs, T.n_Pairs_laid, few3, ?_⟩
    refine k _ ⟨dx, x, t, y, l, ?_, (B6.mono s7).but' but_upd' hp7 npx, (C6.mono s7).but but_upd' hp7 npy, tab.but but_upd' hp7⟩ fun b o e nb => ?_
    · rw [upd_same]
      rfl
    · rw [upd_ne nb]
      exact s7 _ _ (b6 _ _ e nb)
theorem sc_P_Size : FnScope ["self"] ["self"] (defScope sP_Size) := ⟨rfl, rfl, rfl, by decide +kernel, rfl, by decide +kernel, by decide +kernel⟩
theorem ok_P_Size (T : Txt K mg) (mBSize : Mt P w K mg base 1 (cB K) "size" (spBSize K)) : Mt P w K mg base 2 (cP K) "size" (spPSize K) := by
  refine mt_of T.c_Pairs T.m_Pairs_size (fn_ok (N := ["self"]) T.f_P_Size sc_P_Size (fun vs H Q E h => ?_) (fun _ _ _ _ _ _ us hl => match us, hl with | [_], _ => rfl) (fun cdv A outer s H vs Q E hr h => ?_))
  · obtain ⟨a, bs, rfl, _⟩ := h
    rfl
  · obtain ⟨a, bs, rfl, ⟨dx, b, t, c, l, h1, B, C, L⟩, k⟩ := h
    refine ⟨_, (pss_one (ps_ret (pe_m0' mBSize hr (pe_fld (pv 0) rfl)))), ?_⟩
    obtain ⟨⟨dxb, hb1⟩, hb2⟩ := id B
    exact ⟨_, rfl, a, cP K, dx, _, _, rfl, h1, T.c_Pairs, T.n_Pairs_bits, qF_bits _ _ _ _, b, dxb, _, rfl, hb1, bF_no (by decide +kernel) (by decide +kernel), b, t, bs, rfl, B, k⟩
theorem sc_P_Height : FnScope ["self", "place"] ["self", "place"] (defScope sP_Height) := ⟨rfl, rfl, rfl, by decide +kernel, rfl, by decide +kernel, by decide +kernel⟩
theorem ok_P_Height (T : Txt K mg) (mCAhead : Mt P w K mg base 3 (cC K) "ahead" (spAhead K)) : Mt P w K mg base 4 (cP K) "height" (spHeight K) := by
  refine mt_of T.c_Pairs T.m_Pairs_height (fn_ok (N := ["self", "place"]) T.f_P_Height sc_P_Height (fun vs H Q E h => ?_) (fun _ _ _ _ _ _ us hl => match us, hl with | [_, _], _ => rfl) (fun cdv A outer s H vs Q E hr h => ?_))
  · obtain ⟨a, bs, i, rfl, _⟩ := h
    rfl
  · obtain ⟨a, bs, i, rfl, ⟨dx, b, t, c, l, h1, B, C, L⟩, hi, k⟩ := h
    refine ⟨_, (pss_one (ps_ret (pe_op op_sub (pe_op op_mul pe_int (pe_m mCAhead hr (pe_fld (pv 0) rfl) (pa_cons pe_int (pa_cons (pv 1) pa_nil)))) (pv 1)))), ?_⟩
    obtain ⟨dxc, tc, uc, hc1, hc2, hc3⟩ := id C
    refine ⟨_, rfl, a, cP K, dx, _, _, rfl, h1, T.c_Pairs, T.n_Pairs_counts, qF_counts _ _ _ _, c, dxc, _, rfl, hc1, cF_no (by decide +kernel) (by decide +kernel) (by decide +kernel), _, rfl, c, bs, true, i, rfl, C, hi, fun H1 s1 => ?_⟩
    exact ⟨_, _, rfl, rfl, .inl ⟨by decide, by decide⟩, _, rfl, _, _, rfl, rfl, k _ s1⟩
theorem sc_P_Step : FnScope ["self", "place"] ["self", "place"] (defScope sP_Step) := ⟨rfl, rfl, rfl, by decide +kernel, rfl, by decide +kernel, by decide +kernel⟩
theorem ok_P_Step (T : Txt K mg)  : Mt P w K mg base 1 (cP K) "step" (spStep K) := by
  obtain ⟨_, i_WORD_pairs⟩ := T.i_WORD_pairs
  refine mt_of T.c_Pairs T.m_Pairs_step (fn_ok (N := ["self", "place"]) T.f_P_Step sc_P_Step (fun vs H Q E h => ?_) (fun _ _ _ _ _ _ us hl => match us, hl with | [_, _], _ => rfl) (fun cdv A outer s H vs Q E hr h => ?_))
  · obtain ⟨a, bs, i, rfl, _⟩ := h
    rfl
  · obtain ⟨a, bs, i, rfl, ⟨dx, b, t, c, l, h1, B, C, L⟩, hi, k⟩ := h
    refine ⟨_, (pss_one (ps_ret (pe_op op_sub (pe_op op_mul pe_int (pe_op op_and (pe_op op_shr (pe_ix ix_tup (pe_fld (pv 0) rfl) (pe_op op_fdivN (pv 1) (pe_gi (by rfl) i_WORD_pairs)) (fun _ _ => rfl)) (pe_op op_modN (pv 1) (pe_gi (by rfl) i_WORD_pairs))) pe_int)) pe_int))), ?_⟩
    obtain ⟨⟨dxb, hb1⟩, hb2⟩ := id B
    have hb := List.getElem?_eq_getElem hi
    refine ⟨_, rfl, a, cP K, dx, _, _, rfl, h1, T.c_Pairs, T.n_Pairs_kept, qF_kept _ _ _ _, _, rfl, _, _, rfl, rfl, ⟨by decide, by decide⟩, t, _, _, _, rfl, rfl, SqT.of hb2, at_of (fdivN i 32) (wds_at (nw_gt hi)), ?_⟩
    refine ⟨_, rfl, _, _, rfl, rfl, (by show (32 : Int) ≠ 0; decide), _, _, rfl, rfl, ?_, _, _, rfl, rfl, _, _, rfl, rfl, .inl ⟨by decide, by decide⟩, _, _, rfl, rfl, ?_⟩
    · show (0 : Int) ≤ Int.fmod (i : Int) 32
      rw [show (32 : Int) = ((32 : Nat) : Int) from rfl, fmodN]
      omega
    · have e := ht_succ hb
      exact intE (by rw [at_val hb, e]; omega) k
theorem sc_P_EndsOf : FnScope ["self", "stretch"] ["self", "stretch"] (defScope sP_EndsOf) := ⟨rfl, rfl, rfl, by decide +kernel, rfl, by decide +kernel, by decide +kernel⟩
theorem ok_P_EndsOf (T : Txt K mg) (mPSize : Mt P w K mg base 2 (cP K) "size" (spPSize K)) : Mt P w K mg base 3 (cP K) "ends_of" (spEndsOf K) := by
  obtain ⟨_, i_STRETCH⟩ := T.i_STRETCH
  refine mt_of T.c_Pairs T.m_Pairs_ends_of (fn_ok (N := ["self", "stretch"]) T.f_P_EndsOf sc_P_EndsOf (fun vs H Q E h => ?_) (fun _ _ _ _ _ _ us hl => match us, hl with | [_, _], _ => rfl) (fun cdv A outer s H vs Q E hr h => ?_))
  · obtain ⟨a, bs, s', rfl, _⟩ := h
    rfl
  · obtain ⟨a, bs, s', rfl, Pa, hs, k⟩ := h
    refine ⟨_, (pss_one (ps_ret (pe_tup (pa_cons (pe_op op_add (pe_op op_mul (pv 1) (pe_gi (by rfl) i_STRETCH)) pe_int) (pa_cons (pe_callB (call_min2 rfl) (by rfl) T.z_min (by decide +kernel) (pa_cons (pe_op op_mul (pe_op op_add (pv 1) pe_int) (pe_gi (by rfl) i_STRETCH)) (pa_cons (pe_m0' mPSize hr (pv 0)) pa_nil))) pa_nil))))), ?_⟩
    obtain ⟨dx, b, t, c, l, h1, B, C, L⟩ := id Pa
    refine ⟨_, rfl, _, _, rfl, rfl, .inr ⟨by decide, by decide⟩, _, _, rfl, rfl, _, rfl, _, _, rfl, rfl, _, _, rfl, rfl, .inr ⟨by decide, by decide⟩, _, rfl, a, dx, _, rfl, h1, qF_no (by decide +kernel) (by decide +kernel) (by decide +kernel) (by decide +kernel), a, bs, rfl, Pa, _, _, rfl, ?_⟩
    refine ⟨(by show 2 ≤ sizeLine; decide), fun u nu => k _ u (same_new nu) ?_⟩
    rw [upd_same]
    have e1 : (s' : Int) * 256 + 1 = ((256 * s' + 1 : Nat) : Int) := by omega
    have e2 : (if (bs.length : Int) < ((s' : Int) + 1) * 256 then (bs.length : Int) else ((s' : Int) + 1) * 256) = ((min (256 * (s' + 1)) bs.length : Nat) : Int) := by
      split <;> omega
    show some (HO.tup [V.int ((s' : Int) * 256 + 1), V.int (if (bs.length : Int) < ((s' : Int) + 1) * 256 then (bs.length : Int) else ((s' : Int) + 1) * 256)]) = _
    rw [e1, e2]
theorem sc_P_AskHeight : FnScope ["self", "place", "height"] ["self", "place", "height"] (defScope sP_AskHeight) := ⟨rfl, rfl, rfl, by decide +kernel, rfl, by decide +kernel, by decide +kernel⟩
theorem ok_P_AskHeight (T : Txt K mg) (cIsWholeP : Cl P w K mg base 1 "is_whole_pairs" spIsWhole) (mPHeight : Mt P w K mg base 4 (cP K) "height" (spHeight K)) : Mt P w K mg base 5 (cP K) "ask_height" (spAskHeight K) := by
  refine mt_of T.c_Pairs T.m_Pairs_ask_height (fn_ok (N := ["self", "place", "height"]) T.f_P_AskHeight sc_P_AskHeight (fun vs H Q E h => ?_) (fun _ _ _ _ _ _ us hl => match us, hl with | [_, _, _], _ => rfl) (fun cdv A outer s H vs Q E hr h => ?_))
  · obtain ⟨a, bs, i, h', rfl, _⟩ := h
    rfl
  · obtain ⟨a, bs, i, h', rfl, Pa, hi, k⟩ := h
    refine ⟨_, (pss_cons (ps_expr (pe_m mPHeight hr (pv 0) (pa_cons (pv 1) pa_nil)))
      (pss_one (ps_if (pt_not (pt_val (pe_c cIsWholeP hr (pa_cons (pv 2) pa_nil))))
      pss_never
      pss_nil))), ?_⟩
    obtain ⟨dx, b, t, c, l, h1, B, C, L⟩ := id Pa
    refine ⟨_, rfl, a, dx, _, rfl, h1, qF_no (by decide +kernel) (by decide +kernel) (by decide +kernel) (by decide +kernel), _, rfl, a, bs, i, rfl, Pa, hi, fun H1 s1 => ?_⟩
    exact ⟨_, rfl, _, rfl, true, rfl, iteF (k _ s1)⟩
end
end TW
/-! U6: walks (joined by mk.py). -/
namespace TW
open PySem PySem.Spec PyProof.Rows L2
section
variable {P : Program} {w : World} {K : PySem.W.Frag} {mg : Str → Option Value} {base : Heap}

theorem sc_P_FirstIn : FnScope ["self", "low", "high", "height", "now", "place"] ["self", "low", "high", "height"] (defScope sP_FirstIn) := ⟨rfl, rfl, rfl, by decide +kernel, rfl, by decide +kernel, by decide +kernel⟩
theorem ok_P_FirstIn (T : Txt K mg) (mPHeight : Mt P w K mg base 4 (cP K) "height" (spHeight K)) (mPStep : Mt P w K mg base 1 (cP K) "step" (spStep K)) : Mt P w K mg base 5 (cP K) "first_in" (spFirstIn K) := by
  refine mt_of T.c_Pairs T.m_Pairs_first_in (fn_ok (N := ["self", "low", "high", "height", "now", "place"]) T.f_P_FirstIn sc_P_FirstIn (fun vs H Q E h => ?_) (fun _ _ _ _ _ _ us hl => match us, hl with | [_, _, _, _], _ => rfl) (fun cdv A outer s H vs Q E hr h => ?_))
  · obtain ⟨a, bs, lo, hi, h', rfl, _⟩ := h
    rfl
  · obtain ⟨a, bs, lo, hi, h', rfl, Pa, hl, h1, h2, h3, k1, k2⟩ := h
    refine ⟨_, (pss_cons (ps_set (i := 4) sc_P_FirstIn.nd rfl (Or.inl rfl) (pe_m mPHeight hr (pv 0) (pa_cons (pe_op op_sub (pv 1) pe_int) pa_nil)))
      (pss_cons (ps_for PassesOwn.never rfl (pi_range2 (by rfl) T.z_range (pa_cons (pv 1) (pa_cons (pe_op op_add (pv 2) pe_int) pa_nil))) (pg_name (i := 5) sc_P_FirstIn.nd rfl (Or.inl rfl))
      (pss_cons (ps_set (i := 4) sc_P_FirstIn.nd rfl (Or.inl rfl) (pe_op op_add (pv 4) (pe_m mPStep hr (pv 0) (pa_cons (pe_op op_sub (pv 5) pe_int) pa_nil))))
        (pss_one (ps_if (pt_cmpR op_eq (pv 4) (pv 3) (nomark _))
        (pss_one (ps_ret (pv 5)))
        pss_nil))))
      (pss_one (ps_ret pe_non)))), ?_⟩
    obtain ⟨dx, b, t, c, l, o1, B, C, L⟩ := id Pa
    have nof : ∀ {m : Str}, ¬ m = "bits" → ¬ m = "kept" → ¬ m = "counts" → ¬ m = "laid" → (qF b t c l).lookup m = Option.none := fun a1 a2 a3 a4 => qF_no a1 a2 a3 a4
    have e1 : (lo : Int) - 1 = ((lo - 1 : Nat) : Int) := by omega
    refine ⟨_, rfl, a, dx, _, rfl, o1, qF_no (by decide +kernel) (by decide +kernel) (by decide +kernel) (by decide +kernel), _, rfl, _, _, rfl, rfl, a, bs, lo - 1, congrArg (fun z => [V.ref a, V.int z]) e1, Pa, by omega, fun H1 s1 => ?_⟩
    refine ⟨_, rfl, _, rfl, _, _, rfl, rfl, _, _, rfl, ⟨by omega, by omega, by omega, by omega⟩,
      for_range (lo := (lo : Int)) (n := ((hi : Int) + 1 - (lo : Int)).toNat) (fun i σ H' => (∃ v5, σ = [some (.ref a), some (.int (lo : Nat)), some (.int (hi : Nat)), some (.int h'), some (.int (ht bs (lo - 1 + i))), v5]) ∧ Same H H' ∧ ∀ j, lo ≤ j → j < lo + i → ht bs j ≠ h')
      ⟨⟨_, rfl⟩, s1, fun j j1 j2 => by omega⟩ ?_ ?_⟩
    · rintro i σ H2 hi' ⟨⟨v5, rfl⟩, s2, hj⟩
      have e2 : (lo : Int) + (i : Int) - 1 = ((lo - 1 + i : Nat) : Int) := by omega
      refine ⟨_, rfl, _, rfl, a, dx, _, rfl, s2 _ _ o1, qF_no (by decide +kernel) (by decide +kernel) (by decide +kernel) (by decide +kernel), _, rfl, _, _, rfl, rfl, a, bs, lo - 1 + i, congrArg (fun z => [V.ref a, V.int z]) e2, Pa.mono s2, by omega, _, _, rfl, rfl, ?_⟩
      dsimp only
      rw [show ht bs (lo - 1 + i) + (ht bs (lo - 1 + i + 1) - ht bs (lo - 1 + i)) = ht bs (lo + i) by rw [show lo - 1 + i + 1 = lo + i by omega]; omega]
      refine ⟨_, rfl, _, rfl, rfl, _, rfl, ite2 (fun z => ?_) (fun z => ?_)⟩
      · have z1 : ht bs (lo + i) = h' := V.int.inj (of_decide_eq_true z)
        refine ⟨_, rfl, ?_⟩
        exact intE (by omega) (k1 (lo + i) (by omega) (by omega) z1 hj _ s2)
      · have z1 : ht bs (lo + i) ≠ h' := fun w => z (decide_eq_true (congrArg V.int w))
        refine ⟨⟨_, by rw [show lo - 1 + (i + 1) = lo + i by omega]; rfl⟩, s2, fun j j1 j2 => ?_⟩
        by_cases e : j = lo + i
        · rw [e]
          exact z1
        · exact hj j j1 (by omega)
    · rintro σ H2 ⟨⟨v5, rfl⟩, s2, hj⟩
      exact k2 (fun q q1 q2 => hj q q1 (by omega)) _ s2
theorem sc_P_LastIn : FnScope ["self", "low", "high", "height", "now", "place"] ["self", "low", "high", "height"] (defScope sP_LastIn) := ⟨rfl, rfl, rfl, by decide +kernel, rfl, by decide +kernel, by decide +kernel⟩
theorem ok_P_LastIn (T : Txt K mg) (mPHeight : Mt P w K mg base 4 (cP K) "height" (spHeight K)) (mPStep : Mt P w K mg base 1 (cP K) "step" (spStep K)) : Mt P w K mg base 5 (cP K) "last_in" (spLastIn K) := by
  refine mt_of T.c_Pairs T.m_Pairs_last_in (fn_ok (N := ["self", "low", "high", "height", "now", "place"]) T.f_P_LastIn sc_P_LastIn (fun vs H Q E h => ?_) (fun _ _ _ _ _ _ us hl => match us, hl with | [_, _, _, _], _ => rfl) (fun cdv A outer s H vs Q E hr h => ?_))
  · obtain ⟨a, bs, lo, hi, h', rfl, _⟩ := h
    rfl
  · obtain ⟨a, bs, lo, hi, h', rfl, Pa, hl, h1, h0, h2, k1, k2⟩ := h
    refine ⟨_, (pss_cons (ps_set (i := 4) sc_P_LastIn.nd rfl (Or.inl rfl) (pe_m mPHeight hr (pv 0) (pa_cons (pv 2) pa_nil)))
      (pss_cons (ps_for PassesOwn.never rfl (pi_range3 (by rfl) T.z_range (pa_cons (pv 2) (pa_cons (pe_op op_sub (pv 1) pe_int) (pa_cons (pe_un un_neg pe_int) pa_nil)))) (pg_name (i := 5) sc_P_LastIn.nd rfl (Or.inl rfl))
      (pss_cons (ps_if (pt_cmpR op_eq (pv 4) (pv 3) (nomark _))
        (pss_one (ps_ret (pv 5)))
        pss_nil)
        (pss_one (ps_set (i := 4) sc_P_LastIn.nd rfl (Or.inl rfl) (pe_op op_sub (pv 4) (pe_m mPStep hr (pv 0) (pa_cons (pe_op op_sub (pv 5) pe_int) pa_nil)))))))
      (pss_one (ps_ret pe_non)))), ?_⟩
    obtain ⟨dx, b, t, c, l, o1, B, C, L⟩ := id Pa
    refine ⟨_, rfl, a, dx, _, rfl, o1, qF_no (by decide +kernel) (by decide +kernel) (by decide +kernel) (by decide +kernel), _, rfl, a, bs, hi, rfl, Pa, h2, fun H1 s1 => ?_⟩
    refine ⟨_, rfl, _, rfl, _, _, rfl, rfl, _, rfl, _, _, _, ((hi : Int) - ((lo : Int) - 1)).toNat, rfl, RgC.neg (by omega) (by omega) (by omega) (by omega),
      for_rangeC (lo := (hi : Int)) (c := -1) (n := ((hi : Int) - ((lo : Int) - 1)).toNat) (fun i σ H' => (∃ v5, σ = [some (.ref a), some (.int (lo : Nat)), some (.int (hi : Nat)), some (.int h'), some (.int (ht bs (hi - i))), v5]) ∧ Same H H' ∧ ∀ j, hi - i < j → j ≤ hi → ht bs j ≠ h')
      ⟨⟨_, rfl⟩, s1, fun j j1 j2 => by omega⟩ ?_ ?_⟩
    · rintro i σ H2 hi' ⟨⟨v5, rfl⟩, s2, hj⟩
      have e2 : (hi : Int) + (i : Int) * -1 - 1 = ((hi - (i + 1) : Nat) : Int) := by omega
      refine ⟨_, rfl, _, rfl, rfl, _, rfl, ite2 (fun z => ?_) (fun z => ?_)⟩
      · have z1 : ht bs (hi - i) = h' := V.int.inj (of_decide_eq_true z)
        refine ⟨_, rfl, ?_⟩
        exact intE (by omega) (k1 (hi - i) (by omega) (by omega) z1 hj _ s2)
      · have z1 : ht bs (hi - i) ≠ h' := fun w => z (decide_eq_true (congrArg V.int w))
        refine ⟨_, rfl, _, rfl, a, dx, _, rfl, s2 _ _ o1, qF_no (by decide +kernel) (by decide +kernel) (by decide +kernel) (by decide +kernel), _, rfl, _, _, rfl, rfl, a, bs, hi - (i + 1), congrArg (fun z => [V.ref a, V.int z]) e2, Pa.mono s2, by omega, _, _, rfl, rfl, ?_⟩
        dsimp only
        rw [show ht bs (hi - i) - (ht bs (hi - (i + 1) + 1) - ht bs (hi - (i + 1))) = ht bs (hi - (i + 1)) by rw [show hi - (i + 1) + 1 = hi - i by omega]; omega]
        refine ⟨⟨_, rfl⟩, s2, fun j j1 j2 => ?_⟩
        by_cases e : j = hi - i
        · rw [e]
          exact z1
        · exact hj j (by omega) j2
    · rintro σ H2 ⟨⟨v5, rfl⟩, s2, hj⟩
      exact k2 (fun q q1 q2 => hj q (by omega) q2) _ s2
theorem sc_P_NextAt : FnScope ["self", "place", "height", "stretch", "begin", "least", "most", "found", "low", "high"] ["self", "place", "height"] (defScope sP_NextAt) := ⟨rfl, rfl, rfl, by decide +kernel, rfl, by decide +kernel, by decide +kernel⟩
theorem ok_P_NextAt (T : Txt K mg) (mPAskHeight : Mt P w K mg base 5 (cP K) "ask_height" (spAskHeight K)) (mPEndsOf : Mt P w K mg base 3 (cP K) "ends_of" (spEndsOf K)) (mPFirstIn : Mt P w K mg base 5 (cP K) "first_in" (spFirstIn K)) : Mt P w K mg base 6 (cP K) "next_at" (spNextAt K) := by
  obtain ⟨_, i_STRETCH⟩ := T.i_STRETCH
  refine mt_of T.c_Pairs T.m_Pairs_next_at (fn_ok (N := ["self", "place", "height", "stretch", "begin", "least", "most", "found", "low", "high"]) T.f_P_NextAt sc_P_NextAt (fun vs H Q E h => ?_) (fun _ _ _ _ _ _ us hl => match us, hl with | [_, _, _], _ => rfl) (fun cdv A outer s H vs Q E hr h => ?_))
  · obtain ⟨a, bs, i, q, h', rfl, _⟩ := h
    rfl
  · obtain ⟨a, bs, i, q, h', rfl, Pa, hl, iq, ql, hq, hj, k⟩ := h
    refine ⟨_, (pss_cons (ps_expr (pe_m mPAskHeight hr (pv 0) (pa_cons (pv 1) (pa_cons (pv 2) pa_nil))))
      (pss_cons (ps_for PassesOwn.never rfl (pi_range2 (by rfl) T.z_range (pa_cons (pe_op op_fdivN (pv 1) (pe_gi (by rfl) i_STRETCH)) (pa_cons (pe_callB call_len_seq (by rfl) T.z_len PySem.boot_len (pa_cons (pe_fld (pv 0) rfl) pa_nil)) pa_nil))) (pg_name (i := 3) sc_P_NextAt.nd rfl (Or.inl rfl))
      (pss_cons (ps_asg (pe_ix ix_tup (pe_fld (pv 0) rfl) (pv 3) (fun _ _ => rfl)) (pg_tup rfl (pgs_cons (pg_name (i := 4) sc_P_NextAt.nd rfl (Or.inl rfl)) (pgs_cons (pg_name (i := 5) sc_P_NextAt.nd rfl (Or.inl rfl)) (pgs_cons (pg_name (i := 6) sc_P_NextAt.nd rfl (Or.inl rfl)) pgs_nil)))))
        (pss_one (ps_if (pt_chain op_le op_le (pv 5) (pv 2) (pv 6))
        (pss_cons (ps_asg (pe_m mPEndsOf hr (pv 0) (pa_cons (pv 3) pa_nil)) (pg_tup rfl (pgs_cons (pg_name (i := 8) sc_P_NextAt.nd rfl (Or.inl rfl)) (pgs_cons (pg_name (i := 9) sc_P_NextAt.nd rfl (Or.inl rfl)) pgs_nil))))
          (pss_cons (ps_set (i := 7) sc_P_NextAt.nd rfl (Or.inl rfl) (pe_m mPFirstIn hr (pv 0) (pa_cons (pe_callB (call_max2 rfl) (by rfl) T.z_max (by decide +kernel) (pa_cons (pv 8) (pa_cons (pe_op op_add (pv 1) pe_int) pa_nil))) (pa_cons (pv 9) (pa_cons (pv 2) pa_nil)))))
          (pss_one (ps_if (pt_cmpR op_notN (pv 7) pe_non (nomark _))
          (pss_one (ps_ret (pv 7)))
          pss_nil))))
        pss_nil))))
      (pss_one (ps_ret pe_non)))), ?_⟩
    obtain ⟨dx, b, t, c, l, o1, B, C, rs, l1, l2, l3⟩ := id Pa
    have e256 : Int.fdiv (i : Int) 256 = ((i / 256 : Nat) : Int) := fdivN i 256
    refine ⟨_, rfl, a, dx, _, rfl, o1, qF_no (by decide +kernel) (by decide +kernel) (by decide +kernel) (by decide +kernel), _, rfl, _, rfl, a, bs, i, h', rfl, Pa, by omega, fun H1 s1 => ?_⟩
    refine ⟨_, rfl, _, _, rfl, rfl, ⟨by decide, by decide⟩, _, rfl, a, cP K, dx, _, _, rfl, s1 _ _ o1, T.c_Pairs, T.n_Pairs_laid, qF_laid _ _ _ _, l, _, rfl, .inr (SqT.of (s1 _ _ l1)), _, _, rfl, ?_,
      for_range (lo := Int.fdiv (i : Int) 256) (n := (((rs.map V.ref).length : Int) - Int.fdiv (i : Int) 256).toNat) (fun m σ H' => (∃ v3 v4 v5 v6 v7 v8 v9, σ = [some (.ref a), some (.int (i : Nat)), some (.int h'), v3, v4, v5, v6, v7, v8, v9]) ∧ Same H H' ∧ 256 * (i / 256 + m) < q)
      ⟨⟨_, _, _, _, _, _, _, rfl⟩, s1, by omega⟩ ?_ ?_⟩
    · rw [e256, List.length_map]
      omega
    · rintro m σ H2 hm ⟨⟨v3, v4, v5, v6, v7, v8, v9, rfl⟩, s2, hmq⟩
      rw [e256, List.length_map] at hm
      have sl : i / 256 + m < rs.length := by omega
      generalize hs : i / 256 + m = s' at sl hmq
      have es : Int.fdiv (i : Int) 256 + (m : Int) = (s' : Int) := by rw [e256]; omega
      have er := List.getElem?_eq_getElem sl
      obtain ⟨b0, lo, hi, hr', hb⟩ := l3 s' _ er
      have em : (rs.map V.ref)[s']? = some (.ref rs[s']) := by rw [List.getElem?_map, er]; rfl
      refine ⟨_, rfl, a, cP K, dx, _, _, rfl, s2 _ _ o1, T.c_Pairs, T.n_Pairs_laid, qF_laid _ _ _ _, _, rfl, l, _, _, _, rfl, rfl, SqT.of (s2 _ _ l1), at_of es em, ?_⟩
      refine ⟨rs[s'], _, rfl, SqT.of (s2 _ _ hr'), rfl, _, _, rfl, _, _, rfl, _, _, rfl, rfl, ?_⟩
      by_cases c : q ≤ 256 * (s' + 1)
      · obtain ⟨c1, c2⟩ := hb q hmq c ql
        rw [hq] at c1 c2
        refine ⟨_, rfl, _, rfl, _, _, rfl, rfl, _, rfl, iteDT c1 ⟨_, rfl, _, _, rfl, rfl, _, rfl, iteDT c2 ?_⟩⟩
        refine ⟨_, rfl, a, dx, _, rfl, s2 _ _ o1, qF_no (by decide +kernel) (by decide +kernel) (by decide +kernel) (by decide +kernel), _, rfl, a, bs, s', congrArg (fun z => [V.ref a, V.int z]) es, Pa.mono s2, by omega, fun H3 u s3 hu => ⟨u, _, rfl, SqT.of hu, rfl, _, _, rfl, _, _, rfl, rfl, ?_⟩⟩
        have s23 := s2.trans s3
        have emax : (if (i : Int) + 1 > ((256 * s' + 1 : Nat) : Int) then (i : Int) + 1 else ((256 * s' + 1 : Nat) : Int)) = ((max (256 * s' + 1) (i + 1) : Nat) : Int) := by
          split <;> omega
        refine ⟨_, rfl, a, dx, _, rfl, s23 _ _ o1, qF_no (by decide +kernel) (by decide +kernel) (by decide +kernel) (by decide +kernel), _, rfl, _, rfl, _, _, rfl, rfl, _, _, rfl, _, rfl, _, rfl, a, bs, max (256 * s' + 1) (i + 1), min (256 * (s' + 1)) bs.length, h', congrArg (fun z => [V.ref a, V.int z, V.int ((min (256 * (s' + 1)) bs.length : Nat) : Int), V.int h']) emax, Pa.mono s23, hl, by omega, by omega, by omega, ?_, ?_⟩
        · intro q' q1 q2 q3 q4 H4 s4
          have eq' : q' = q := by
            rcases Nat.lt_trichotomy q' q with w | w | w
            · exact absurd q3 (hj q' (by omega) w)
            · exact w
            · exact absurd hq (q4 q (by omega) w)
          refine ⟨_, rfl, rfl, _, rfl, iteNT (fun z => by cases z) ⟨_, rfl, ?_⟩⟩
          rw [eq']
          exact k _ (s23.trans s4)
        · intro hn
          exact absurd hq (hn q (by omega) (by omega))
      · have goal : ∀ (H3 : Hp) (w3 w4 w5 w6 w7 w8 w9 : Option V), Same H H3 → (∃ v3 v4 v5 v6 v7 v8 v9, [some (V.ref a), some (V.int (i : Nat)), some (V.int h'), w3, w4, w5, w6, w7, w8, w9] = [some (V.ref a), some (V.int (i : Nat)), some (V.int h'), v3, v4, v5, v6, v7, v8, v9]) ∧ Same H H3 ∧ 256 * (i / 256 + (m + 1)) < q :=
          fun H3 w3 w4 w5 w6 w7 w8 w9 s => ⟨⟨_, _, _, _, _, _, _, rfl⟩, s, by omega⟩
        refine ⟨_, rfl, _, rfl, _, _, rfl, rfl, _, rfl, ite2 (fun _ => ⟨_, rfl, _, _, rfl, rfl, _, rfl, ite2 (fun _ => ?_) (fun _ => goal _ _ _ _ _ _ _ _ s2)⟩) (fun _ => ⟨_, rfl, iteF (goal _ _ _ _ _ _ _ _ s2)⟩)⟩
        refine ⟨_, rfl, a, dx, _, rfl, s2 _ _ o1, qF_no (by decide +kernel) (by decide +kernel) (by decide +kernel) (by decide +kernel), _, rfl, a, bs, s', congrArg (fun z => [V.ref a, V.int z]) es, Pa.mono s2, by omega, fun H3 u s3 hu => ⟨u, _, rfl, SqT.of hu, rfl, _, _, rfl, _, _, rfl, rfl, ?_⟩⟩
        have s23 := s2.trans s3
        have emax : (if (i : Int) + 1 > ((256 * s' + 1 : Nat) : Int) then (i : Int) + 1 else ((256 * s' + 1 : Nat) : Int)) = ((max (256 * s' + 1) (i + 1) : Nat) : Int) := by
          split <;> omega
        refine ⟨_, rfl, a, dx, _, rfl, s23 _ _ o1, qF_no (by decide +kernel) (by decide +kernel) (by decide +kernel) (by decide +kernel), _, rfl, _, rfl, _, _, rfl, rfl, _, _, rfl, _, rfl, _, rfl, a, bs, max (256 * s' + 1) (i + 1), min (256 * (s' + 1)) bs.length, h', congrArg (fun z => [V.ref a, V.int z, V.int ((min (256 * (s' + 1)) bs.length : Nat) : Int), V.int h']) emax, Pa.mono s23, hl, by omega, by omega, by omega, ?_, ?_⟩
        · intro q' q1 q2 q3 q4
          exact absurd q3 (hj q' (by omega) (by omega))
        · intro hn H4 s4
          exact ⟨_, rfl, rfl, _, rfl, iteNS rfl (goal _ _ _ _ _ _ _ _ (s23.trans s4))⟩
    · rintro σ H2 ⟨_, s2, hmq⟩
      rw [e256, List.length_map] at hmq
      omega
theorem sc_P_LastAt : FnScope ["self", "place", "height", "stretch", "begin", "least", "most", "found", "low", "high"] ["self", "place", "height"] (defScope sP_LastAt) := ⟨rfl, rfl, rfl, by decide +kernel, rfl, by decide +kernel, by decide +kernel⟩
theorem ok_P_LastAt (T : Txt K mg) (mPAskHeight : Mt P w K mg base 5 (cP K) "ask_height" (spAskHeight K)) (mPEndsOf : Mt P w K mg base 3 (cP K) "ends_of" (spEndsOf K)) (mPLastIn : Mt P w K mg base 5 (cP K) "last_in" (spLastIn K)) : Mt P w K mg base 6 (cP K) "last_at" (spLastAt K) := by
  obtain ⟨_, i_STRETCH⟩ := T.i_STRETCH
  refine mt_of T.c_Pairs T.m_Pairs_last_at (fn_ok (N := ["self", "place", "height", "stretch", "begin", "least", "most", "found", "low", "high"]) T.f_P_LastAt sc_P_LastAt (fun vs H Q E h => ?_) (fun _ _ _ _ _ _ us hl => match us, hl with | [_, _, _], _ => rfl) (fun cdv A outer s H vs Q E hr h => ?_))
  · obtain ⟨a, bs, i, q, h', rfl, _⟩ := h
    rfl
  · obtain ⟨a, bs, i, q, h', rfl, Pa, hl, qi, il, hq, hj, k⟩ := h
    refine ⟨_, (pss_cons (ps_expr (pe_m mPAskHeight hr (pv 0) (pa_cons (pv 1) (pa_cons (pv 2) pa_nil))))
      (pss_cons (ps_if (pt_cmpR op_eq (pv 1) pe_int (nomark _))
      (pss_one (ps_ret pe_non))
      pss_nil)
      (pss_cons (ps_for PassesOwn.never rfl (pi_range3 (by rfl) T.z_range (pa_cons (pe_op op_sub (pe_op op_fdivN (pe_op op_sub (pe_op op_add (pv 1) (pe_gi (by rfl) i_STRETCH)) pe_int) (pe_gi (by rfl) i_STRETCH)) pe_int) (pa_cons (pe_un un_neg pe_int) (pa_cons (pe_un un_neg pe_int) pa_nil)))) (pg_name (i := 3) sc_P_LastAt.nd rfl (Or.inl rfl))
      (pss_cons (ps_asg (pe_ix ix_tup (pe_fld (pv 0) rfl) (pv 3) (fun _ _ => rfl)) (pg_tup rfl (pgs_cons (pg_name (i := 4) sc_P_LastAt.nd rfl (Or.inl rfl)) (pgs_cons (pg_name (i := 5) sc_P_LastAt.nd rfl (Or.inl rfl)) (pgs_cons (pg_name (i := 6) sc_P_LastAt.nd rfl (Or.inl rfl)) pgs_nil)))))
        (pss_one (ps_if (pt_chain op_le op_le (pv 5) (pv 2) (pv 6))
        (pss_cons (ps_asg (pe_m mPEndsOf hr (pv 0) (pa_cons (pv 3) pa_nil)) (pg_tup rfl (pgs_cons (pg_name (i := 8) sc_P_LastAt.nd rfl (Or.inl rfl)) (pgs_cons (pg_name (i := 9) sc_P_LastAt.nd rfl (Or.inl rfl)) pgs_nil))))
          (pss_cons (ps_set (i := 7) sc_P_LastAt.nd rfl (Or.inl rfl) (pe_m mPLastIn hr (pv 0) (pa_cons (pv 8) (pa_cons (pe_callB (call_min2 rfl) (by rfl) T.z_min (by decide +kernel) (pa_cons (pv 9) (pa_cons (pe_op op_sub (pv 1) pe_int) pa_nil))) (pa_cons (pv 2) pa_nil)))))
          (pss_one (ps_if (pt_cmpR op_notN (pv 7) pe_non (nomark _))
          (pss_one (ps_ret (pv 7)))
          pss_nil))))
        pss_nil))))
      (pss_cons (ps_if (pt_cmpR op_eq (pv 2) pe_int (nomark _))
      (pss_one (ps_ret pe_int))
      pss_nil)
      (pss_one (ps_ret pe_non)))))), ?_⟩
    obtain ⟨dx, b, t, c, l, o1, B, C, rs, l1, l2, l3⟩ := id Pa
    have e256 : Int.fdiv ((i : Int) + 256 - 2) 256 = (((i + 254) / 256 : Nat) : Int) := by
      rw [show (i : Int) + 256 - 2 = ((i + 254 : Nat) : Int) by omega]
      exact fdivN (i + 254) 256
    refine ⟨_, rfl, a, dx, _, rfl, o1, qF_no (by decide +kernel) (by decide +kernel) (by decide +kernel) (by decide +kernel), _, rfl, _, rfl, a, bs, i, h', rfl, Pa, by omega, fun H1 s1 => ?_⟩
    refine ⟨_, rfl, rfl, _, rfl, iteDF (fun z => by have := V.int.inj z; omega) ?_⟩
    refine ⟨_, rfl, _, _, rfl, rfl, _, _, rfl, rfl, _, _, rfl, rfl, ⟨by decide, by decide⟩, _, _, rfl, rfl, _, rfl, _, rfl, _, _, _, (i + 254) / 256, rfl, ?_,
      for_rangeC (lo := Int.fdiv ((i : Int) + 256 - 2) 256 - 1) (c := -1) (n := (i + 254) / 256) (fun m σ H' => (∃ v3 v4 v5 v6 v7 v8 v9, σ = [some (.ref a), some (.int (i : Nat)), some (.int h'), v3, v4, v5, v6, v7, v8, v9]) ∧ Same H H' ∧ q ≤ 256 * ((i + 254) / 256 - m))
      ⟨⟨_, _, _, _, _, _, _, rfl⟩, s1, by omega⟩ ?_ ?_⟩
    · have r := RgC.neg (i := (((i + 254) / 256 : Nat) : Int) - 1) (j := -1) (by omega) (by omega) (by omega) (by omega)
      rw [show ((((i + 254) / 256 : Nat) : Int) - 1 - -1).toNat = (i + 254) / 256 by omega] at r
      rw [e256]
      exact r
    · rintro m σ H2 hm ⟨⟨v3, v4, v5, v6, v7, v8, v9, rfl⟩, s2, hmq⟩
      have sl : (i + 254) / 256 - (m + 1) < rs.length := by omega
      have es : Int.fdiv ((i : Int) + 256 - 2) 256 - 1 + (m : Int) * -1 = (((i + 254) / 256 - (m + 1) : Nat) : Int) := by rw [e256]; omega
      have hmq' : q ≤ 256 * ((i + 254) / 256 - (m + 1) + 1) := by omega
      generalize hs : (i + 254) / 256 - (m + 1) = s' at sl hmq' es
      have er := List.getElem?_eq_getElem sl
      obtain ⟨b0, lo, hi, hr', hb⟩ := l3 s' _ er
      have em : (rs.map V.ref)[s']? = some (.ref rs[s']) := by rw [List.getElem?_map, er]; rfl
      refine ⟨_, rfl, a, cP K, dx, _, _, rfl, s2 _ _ o1, T.c_Pairs, T.n_Pairs_laid, qF_laid _ _ _ _, _, rfl, l, _, _, _, rfl, rfl, SqT.of (s2 _ _ l1), at_of es em, ?_⟩
      refine ⟨rs[s'], _, rfl, SqT.of (s2 _ _ hr'), rfl, _, _, rfl, _, _, rfl, _, _, rfl, rfl, ?_⟩
      have emin : (if (i : Int) - 1 < ((min (256 * (s' + 1)) bs.length : Nat) : Int) then (i : Int) - 1 else ((min (256 * (s' + 1)) bs.length : Nat) : Int)) = ((min (min (256 * (s' + 1)) bs.length) (i - 1) : Nat) : Int) := by
        split <;> omega
      by_cases c : 256 * s' < q
      · obtain ⟨c1, c2⟩ := hb q c hmq' (by omega)
        rw [hq] at c1 c2
        refine ⟨_, rfl, _, rfl, _, _, rfl, rfl, _, rfl, iteDT c1 ⟨_, rfl, _, _, rfl, rfl, _, rfl, iteDT c2 ?_⟩⟩
        refine ⟨_, rfl, a, dx, _, rfl, s2 _ _ o1, qF_no (by decide +kernel) (by decide +kernel) (by decide +kernel) (by decide +kernel), _, rfl, a, bs, s', congrArg (fun z => [V.ref a, V.int z]) es, Pa.mono s2, by omega, fun H3 u s3 hu => ⟨u, _, rfl, SqT.of hu, rfl, _, _, rfl, _, _, rfl, rfl, ?_⟩⟩
        have s23 := s2.trans s3
        refine ⟨_, rfl, a, dx, _, rfl, s23 _ _ o1, qF_no (by decide +kernel) (by decide +kernel) (by decide +kernel) (by decide +kernel), _, rfl, _, rfl, _, rfl, _, _, rfl, rfl, _, _, rfl, _, rfl, a, bs, 256 * s' + 1, min (min (256 * (s' + 1)) bs.length) (i - 1), h', congrArg (fun z => [V.ref a, V.int ((256 * s' + 1 : Nat) : Int), V.int z, V.int h']) emin, Pa.mono s23, hl, by omega, by omega, by omega, ?_, ?_⟩
        · intro q' q1 q2 q3 q4 H4 s4
          have eq' : q' = q := by
            rcases Nat.lt_trichotomy q' q with w | w | w
            · exact absurd hq (q4 q w (by omega))
            · exact w
            · exact absurd q3 (hj q' w (by omega))
          refine ⟨_, rfl, rfl, _, rfl, iteNT (fun z => by cases z) ⟨_, rfl, ?_⟩⟩
          rw [eq']
          exact k _ (s23.trans s4)
        · intro hn
          exact absurd hq (hn q (by omega) (by omega))
      · have goal : ∀ (H3 : Hp) (w3 w4 w5 w6 w7 w8 w9 : Option V), Same H H3 → (∃ v3 v4 v5 v6 v7 v8 v9, [some (V.ref a), some (V.int (i : Nat)), some (V.int h'), w3, w4, w5, w6, w7, w8, w9] = [some (V.ref a), some (V.int (i : Nat)), some (V.int h'), v3, v4, v5, v6, v7, v8, v9]) ∧ Same H H3 ∧ q ≤ 256 * s' :=
          fun H3 w3 w4 w5 w6 w7 w8 w9 s => ⟨⟨_, _, _, _, _, _, _, rfl⟩, s, by omega⟩
        refine ⟨_, rfl, _, rfl, _, _, rfl, rfl, _, rfl, ite2 (fun _ => ⟨_, rfl, _, _, rfl, rfl, _, rfl, ite2 (fun _ => ?_) (fun _ => goal _ _ _ _ _ _ _ _ s2)⟩) (fun _ => ⟨_, rfl, iteF (goal _ _ _ _ _ _ _ _ s2)⟩)⟩
        refine ⟨_, rfl, a, dx, _, rfl, s2 _ _ o1, qF_no (by decide +kernel) (by decide +kernel) (by decide +kernel) (by decide +kernel), _, rfl, a, bs, s', congrArg (fun z => [V.ref a, V.int z]) es, Pa.mono s2, by omega, fun H3 u s3 hu => ⟨u, _, rfl, SqT.of hu, rfl, _, _, rfl, _, _, rfl, rfl, ?_⟩⟩
        have s23 := s2.trans s3
        refine ⟨_, rfl, a, dx, _, rfl, s23 _ _ o1, qF_no (by decide +kernel) (by decide +kernel) (by decide +kernel) (by decide +kernel), _, rfl, _, rfl, _, rfl, _, _, rfl, rfl, _, _, rfl, _, rfl, a, bs, 256 * s' + 1, min (min (256 * (s' + 1)) bs.length) (i - 1), h', congrArg (fun z => [V.ref a, V.int ((256 * s' + 1 : Nat) : Int), V.int z, V.int h']) emin, Pa.mono s23, hl, by omega, by omega, by omega, ?_, ?_⟩
        · intro q' q1 q2 q3 q4
          exact absurd q3 (hj q' (by omega) (by omega))
        · intro hn H4 s4
          exact ⟨_, rfl, rfl, _, rfl, iteNS rfl (goal _ _ _ _ _ _ _ _ (s23.trans s4))⟩
    · rintro σ H2 ⟨⟨v3, v4, v5, v6, v7, v8, v9, rfl⟩, s2, hmq⟩
      have q0 : q = 0 := by omega
      subst q0
      rw [ht_zero] at hq
      refine ⟨_, rfl, rfl, _, rfl, iteDT (congrArg V.int hq.symm) ?_⟩
      exact k _ s2
theorem sc_P_OpeningOf : FnScope ["self", "place"] ["self", "place"] (defScope sP_OpeningOf) := ⟨rfl, rfl, rfl, by decide +kernel, rfl, by decide +kernel, by decide +kernel⟩
theorem ok_P_OpeningOf (T : Txt K mg) (mBBit : Mt P w K mg base 3 (cB K) "bit" (spBAt K)) (mPHeight : Mt P w K mg base 4 (cP K) "height" (spHeight K)) (mPLastAt : Mt P w K mg base 6 (cP K) "last_at" (spLastAt K)) : Mt P w K mg base 7 (cP K) "opening_of" (spOpeningOf K) := by
  refine mt_of T.c_Pairs T.m_Pairs_opening_of (fn_ok (N := ["self", "place"]) T.f_P_OpeningOf sc_P_OpeningOf (fun vs H Q E h => ?_) (fun _ _ _ _ _ _ us hl => match us, hl with | [_, _], _ => rfl) (fun cdv A outer s H vs Q E hr h => ?_))
  · obtain ⟨a, bs, i, q, rfl, _⟩ := h
    rfl
  · obtain ⟨a, bs, i, q, rfl, Pa, hl, ⟨il, hq, ho⟩, k⟩ := h
    refine ⟨_, (pss_cons (ps_if (pt_cmpR op_eq (pe_m mBBit hr (pe_fld (pv 0) rfl) (pa_cons (pv 1) pa_nil)) pe_int (nomark _))
      (pss_one (ps_ret (pv 1)))
      pss_nil)
      (pss_one (ps_ret (pe_m mPLastAt hr (pv 0) (pa_cons (pe_op op_add (pv 1) pe_int) (pa_cons (pe_m mPHeight hr (pv 0) (pa_cons (pe_op op_add (pv 1) pe_int) pa_nil)) pa_nil)))))), ?_⟩
    obtain ⟨dx, b, t, c, l, o1, B, C, L⟩ := id Pa
    obtain ⟨⟨dxb, hb1⟩, hb2⟩ := id B
    have e1 : (i : Int) + 1 = ((i + 1 : Nat) : Int) := by omega
    rcases ho with rfl | ⟨hi, qi, h1, h2⟩
    · refine ⟨_, rfl, a, cP K, dx, _, _, rfl, o1, T.c_Pairs, T.n_Pairs_bits, qF_bits _ _ _ _, b, dxb, _, rfl, hb1, bF_no (by decide +kernel) (by decide +kernel), _, rfl, b, t, bs, i, true, rfl, B, hq, rfl, _, rfl, iteDT rfl ⟨_, rfl, ?_⟩⟩
      exact k _ (Same.refl _)
    · refine ⟨_, rfl, a, cP K, dx, _, _, rfl, o1, T.c_Pairs, T.n_Pairs_bits, qF_bits _ _ _ _, b, dxb, _, rfl, hb1, bF_no (by decide +kernel) (by decide +kernel), _, rfl, b, t, bs, i, false, rfl, B, hi, rfl, _, rfl, iteDF (fun z => by cases V.int.inj z) ?_⟩
      refine ⟨_, rfl, a, dx, _, rfl, o1, qF_no (by decide +kernel) (by decide +kernel) (by decide +kernel) (by decide +kernel), _, rfl, _, _, rfl, rfl, _, rfl, a, dx, _, rfl, o1, qF_no (by decide +kernel) (by decide +kernel) (by decide +kernel) (by decide +kernel), _, rfl, _, _, rfl, rfl, a, bs, i + 1, congrArg (fun z => [V.ref a, V.int z]) e1, Pa, by omega, fun H1 s1 => ?_⟩
      exact ⟨a, bs, i + 1, q, ht bs (i + 1), congrArg (fun z => [V.ref a, V.int z, V.int (ht bs (i + 1))]) e1, Pa.mono s1, hl, by omega, by omega, h1, h2, fun H2 s2 => k _ (s1.trans s2)⟩
theorem sc_P_Partner : FnScope ["self", "place", "opening"] ["self", "place"] (defScope sP_Partner) := ⟨rfl, rfl, rfl, by decide +kernel, rfl, by decide +kernel, by decide +kernel⟩
theorem ok_P_Partner (T : Txt K mg) (mPHeight : Mt P w K mg base 4 (cP K) "height" (spHeight K)) (mPNextAt : Mt P w K mg base 6 (cP K) "next_at" (spNextAt K)) (mPOpeningOf : Mt P w K mg base 7 (cP K) "opening_of" (spOpeningOf K)) : Mt P w K mg base 8 (cP K) "partner" (spPartner K) := by
  refine mt_of T.c_Pairs T.m_Pairs_partner (fn_ok (N := ["self", "place", "opening"]) T.f_P_Partner sc_P_Partner (fun vs H Q E h => ?_) (fun _ _ _ _ _ _ us hl => match us, hl with | [_, _], _ => rfl) (fun cdv A outer s H vs Q E hr h => ?_))
  · obtain ⟨a, bs, i, q, rfl, _⟩ := h
    rfl
  · obtain ⟨a, bs, i, q, rfl, Pa, hl, O, k⟩ := h
    refine ⟨_, (pss_cons (ps_set (i := 2) sc_P_Partner.nd rfl (Or.inl rfl) (pe_m mPOpeningOf hr (pv 0) (pa_cons (pv 1) pa_nil)))
      (pss_cons (ps_if (pt_cmpR op_ne (pv 2) (pv 1) (nomark _))
      (pss_one (ps_ret (pv 2)))
      pss_nil)
      (pss_one (ps_ret (pe_op op_sub (pe_m mPNextAt hr (pv 0) (pa_cons (pv 1) (pa_cons (pe_m mPHeight hr (pv 0) (pa_cons (pv 1) pa_nil)) pa_nil))) pe_int))))), ?_⟩
    obtain ⟨dx, b, t, c, l, o1, B, C, L⟩ := id Pa
    refine ⟨_, rfl, a, dx, _, rfl, o1, qF_no (by decide +kernel) (by decide +kernel) (by decide +kernel) (by decide +kernel), _, rfl, a, bs, i, q, rfl, Pa, hl, O, fun H1 s1 => ?_⟩
    rcases k with ⟨ne, k⟩ | ⟨rfl, r, r1, r2, r3, r4, k⟩
    · refine ⟨_, rfl, _, rfl, rfl, _, rfl, iteNT (fun z => ne (by have := V.int.inj z; omega)) ⟨_, rfl, ?_⟩⟩
      exact k _ s1
    · refine ⟨_, rfl, _, rfl, rfl, _, rfl, iteNS rfl ?_⟩
      refine ⟨_, rfl, a, dx, _, rfl, s1 _ _ o1, qF_no (by decide +kernel) (by decide +kernel) (by decide +kernel) (by decide +kernel), _, rfl, _, rfl, a, dx, _, rfl, s1 _ _ o1, qF_no (by decide +kernel) (by decide +kernel) (by decide +kernel) (by decide +kernel), _, rfl, a, bs, i, rfl, Pa.mono s1, by omega, fun H2 s2 => ?_⟩
      have s12 := s1.trans s2
      exact ⟨a, bs, i, r, ht bs i, rfl, Pa.mono s12, hl, r1, r2, r3, r4, fun H3 s3 => ⟨_, _, rfl, rfl, k _ (s12.trans s3)⟩⟩
theorem sc_P_Round : FnScope ["self", "place", "opening"] ["self", "place"] (defScope sP_Round) := ⟨rfl, rfl, rfl, by decide +kernel, rfl, by decide +kernel, by decide +kernel⟩
theorem ok_P_Round (T : Txt K mg) (mPHeight : Mt P w K mg base 4 (cP K) "height" (spHeight K)) (mPLastAt : Mt P w K mg base 6 (cP K) "last_at" (spLastAt K)) (mPOpeningOf : Mt P w K mg base 7 (cP K) "opening_of" (spOpeningOf K)) : Mt P w K mg base 8 (cP K) "round" (spRound K) := by
  refine mt_of T.c_Pairs T.m_Pairs_round (fn_ok (N := ["self", "place", "opening"]) T.f_P_Round sc_P_Round (fun vs H Q E h => ?_) (fun _ _ _ _ _ _ us hl => match us, hl with | [_, _], _ => rfl) (fun cdv A outer s H vs Q E hr h => ?_))
  · obtain ⟨a, bs, i, q, r, rfl, _⟩ := h
    rfl
  · obtain ⟨a, bs, i, q, r, rfl, Pa, hl, O, h0, rq, hr', hj, k⟩ := h
    refine ⟨_, (pss_cons (ps_set (i := 2) sc_P_Round.nd rfl (Or.inl rfl) (pe_m mPOpeningOf hr (pv 0) (pa_cons (pv 1) pa_nil)))
      (pss_cons (ps_if (pt_cmpR op_eq (pe_m mPHeight hr (pv 0) (pa_cons (pv 2) pa_nil)) pe_int (nomark _))
      (pss_one (ps_ret pe_non))
      pss_nil)
      (pss_one (ps_ret (pe_m mPLastAt hr (pv 0) (pa_cons (pv 2) (pa_cons (pe_op op_sub (pe_m mPHeight hr (pv 0) (pa_cons (pv 2) pa_nil)) pe_int) pa_nil))))))), ?_⟩
    obtain ⟨dx, b, t, c, l, o1, B, C, L⟩ := id Pa
    have ql : q < bs.length := (List.getElem?_eq_some_iff.mp O.2.1).1
    refine ⟨_, rfl, a, dx, _, rfl, o1, qF_no (by decide +kernel) (by decide +kernel) (by decide +kernel) (by decide +kernel), _, rfl, a, bs, i, q, rfl, Pa, hl, O, fun H1 s1 => ?_⟩
    refine ⟨_, rfl, a, dx, _, rfl, s1 _ _ o1, qF_no (by decide +kernel) (by decide +kernel) (by decide +kernel) (by decide +kernel), _, rfl, a, bs, q, rfl, Pa.mono s1, by omega, fun H2 s2 => ⟨rfl, _, rfl, iteDF (fun z => h0 (V.int.inj z)) ?_⟩⟩
    have s12 := s1.trans s2
    refine ⟨_, rfl, a, dx, _, rfl, s12 _ _ o1, qF_no (by decide +kernel) (by decide +kernel) (by decide +kernel) (by decide +kernel), _, rfl, _, rfl, a, dx, _, rfl, s12 _ _ o1, qF_no (by decide +kernel) (by decide +kernel) (by decide +kernel) (by decide +kernel), _, rfl, a, bs, q, rfl, Pa.mono s12, by omega, fun H3 s3 => ⟨_, _, rfl, rfl, ?_⟩⟩
    have s13 := s12.trans s3
    exact ⟨a, bs, q, r, ht bs q - 1, rfl, Pa.mono s13, hl, rq, by omega, hr', hj, fun H4 s4 => k _ (s13.trans s4)⟩
end
end TW
/-! U7: walks (joined by mk.py). -/
namespace TW
open PySem PySem.Spec PyProof.Rows L2
section
variable {P : Program} {w : World} {K : PySem.W.Frag} {mg : Str → Option Value} {base : Heap}

theorem dpAll_ints {K : PySem.W.Frag} {H : Hp} : ∀ ns : List Int, DpAll K H (vI ns) (ns.map PyData.int)
  | [] => .nil
  | i :: r => .cons (.int i) (dpAll_ints r)
theorem dp_ints {K : PySem.W.Frag} {H : Hp} {a : Addr} {ns : List Int} (h : H a = some (.lst (vI ns))) : Dp K H (.ref a) (.list (ns.map PyData.int)) := .lst (SqL.of h) (dpAll_ints ns)
theorem eqv_nil (ns : List Int) : PyData.eqv (.list (ns.map PyData.int)) (.list []) = ns.isEmpty := by
  cases ns <;> simp [PyData.eqv, PyData.eqvAll]
theorem ne_nil {K : PySem.W.Frag} {H : Hp} {Q : VK} {l a : Addr} {ns : List Int} (h : H l = some (.lst (vI ns))) (e : H a = some (.lst [])) (q : Q (.bl (!ns.isEmpty)) H) : rNeD K (.ref l) (.ref a) H Q := by
  refine ⟨_, _, dp_ints h, dp_ints (ns := []) e, PySem.W.ke_shaped_ints ns, PySem.W.ke_shaped_ints [], ?_⟩
  rw [List.map_nil, eqv_nil]
  exact q
theorem eq_nil {K : PySem.W.Frag} {H : Hp} {Q : VK} {l a : Addr} {ns : List Int} (h : H l = some (.lst (vI ns))) (e : H a = some (.lst [])) (q : Q (.bl ns.isEmpty) H) : rEqD K (.ref l) (.ref a) H Q := by
  refine ⟨_, _, dp_ints h, dp_ints (ns := []) e, PySem.W.ke_shaped_ints ns, PySem.W.ke_shaped_ints [], ?_⟩
  rw [List.map_nil, eqv_nil]
  exact q
theorem vI_last {v : List Int} {b : Nat} (h : b < v.length) : vI (v.take (b + 1)) = vI (v.take b) ++ [V.int v[b]] := by
  unfold vI
  rw [List.take_add_one, List.getElem?_eq_getElem h, List.map_append]
  rfl
theorem vI_at {es : List Int} {i : Nat} {x : V} (h : (vI es)[i]? = some x) : ∃ e, es[i]? = some e ∧ x = .int e := by
  unfold vI at h
  rw [List.getElem?_map] at h
  cases q : es[i]? with
  | none =>
    rw [q] at h
    cases h
  | some e =>
    rw [q] at h
    exact ⟨e, rfl, (Option.some.inj h).symm⟩
theorem sc_LookAt : FnScope ["elders", "way", "knot", "elder"] ["elders"] (defScope sLookAt) := ⟨rfl, rfl, rfl, by decide +kernel, rfl, by decide +kernel, by decide +kernel⟩
theorem ok_LookAt (T : Txt K mg)  : Cl P w K mg base 1 "look_at" spLookAt := by
  obtain ⟨_, i_MOST_woods⟩ := T.i_MOST_woods
  refine cl_of T.g_look_at (fn_ok (N := ["elders", "way", "knot", "elder"]) T.f_LookAt sc_LookAt (fun vs H Q E h => ?_) (fun _ _ _ _ _ _ us hl => match us, hl with | [_], _ => rfl) (fun cdv A outer s H vs Q E hr h => ?_))
  · obtain ⟨a, es, w', rfl, _⟩ := h
    rfl
  · obtain ⟨a, es, w', rfl, ha, W, hl, k⟩ := h
    refine ⟨_, (pss_cons (ps_if (pt_not (pt_val (pe_isi (T := "list") T.z_isinstance T.z_list (pv 0))))
      pss_never
      pss_nil)
      (pss_cons (ps_set (i := 1) sc_LookAt.nd rfl (Or.inl rfl) (pe_lst pa_nil))
      (pss_cons (ps_for PassesOwn.never rfl (pi_enum (by rfl) T.z_enumerate (pa_cons (pv 0) pa_nil)) (pg_tup rfl (pgs_cons (pg_name (i := 2) sc_LookAt.nd rfl (Or.inl rfl)) (pgs_cons (pg_name (i := 3) sc_LookAt.nd rfl (Or.inl rfl)) pgs_nil)))
      (pss_cons (ps_if (PW.pt (pw_or (pt_cmpR op_eq (pv 2) (pe_gi (by rfl) i_MOST_woods) (nomark _)) (pw_or (pt_not (pt_val (pe_isi (T := "int") T.z_isinstance T.z_int (pv 3)))) (pw_or1 (pt_val (pe_isi (T := "bool") T.z_isinstance T.z_bool (pv 3)))))))
        pss_never
        pss_nil)
        (pss_cons (ps_while PassesOwn.never (PW.pt (pw_and (pt_cmpR (op_neD hr.units) (pv 1) (pe_lst pa_nil) (nomark _)) (pw_and1 (pt_cmpR op_ne (pe_ix ix_list (pv 1) (pe_un un_neg pe_int) (fun _ _ => rfl)) (pv 3) (nomark _)))))
        (pss_one (ps_expr (pe_bm0 PySem.F.plainAttrs_list PySem.F.slot_list_pop PySem.F.type_list_pop mt_pop (pv 1)))))
        (pss_cons (ps_if (PW.pt (pw_and (pt_cmpR (op_eqD hr.units) (pv 1) (pe_lst pa_nil) (nomark _)) (pw_and1 (pt_cmpR op_ne (pv 3) (pe_un un_neg pe_int) (nomark _)))))
        pss_never
        pss_nil)
        (pss_one (ps_expr (pe_bm PySem.F.plainAttrs_list PySem.F.slot_list_append PySem.F.type_list_append mt_append (pv 1) (pa_cons (pv 2) pa_nil))))))))
      (pss_one (ps_ret (pe_callTy call_list_of (by rfl) T.z_list (by decide +kernel) (pa_cons (pv 0) pa_nil))))))), ?_⟩
    refine ⟨_, rfl, isi_lst_list ha ⟨true, rfl, iteF ?_⟩⟩
    refine ⟨Nat.zero_le _, fun l nl => ?_⟩
    have nal : a ≠ l := ne_of_none ha nl
    refine ⟨_, rfl, a, _, rfl, SqL.of ((upd_ne nal).trans ha), for_it (walk_enum (xs := vI es)) (fun i σ H' => ∃ (v2 v3 : Option V) (v : List Int), σ = [some (.ref a), some (.ref l), v2, v3] ∧ Same H H' ∧ H' l = some (.lst (vI v)) ∧ Wd (es.take i) v)
      ⟨_, _, [], rfl, same_new nl, upd_same, Wd.nil⟩ (fun i σ H' _ ⟨_, _, _, _, s, _⟩ => SqL.of (s _ _ ha)) ?_ ?_⟩
    · rintro i x σ H1 H2 hi ⟨v2, v3, v, rfl, s1, hv, W1⟩ ⟨T', x1, y, rfl, nT, rfl, ex, ey⟩
      have ex1 : x1 = .int (i : Nat) := (Option.some.inj ex).symm
      subst ex1
      obtain ⟨e, he, rfl⟩ := vI_at ey
      have ilt : i < es.length := (List.getElem?_eq_some_iff.mp he).1
      obtain ⟨a0, ha0, hae, W2⟩ := W.next he W1
      have asc := W1.asc1
      have vl : v.length ≤ 4000 := by
        obtain ⟨p1, p2⟩ := W1.asc
        have : ∀ (l : List Int) (lo : Int), l.Pairwise (· < ·) → (∀ x ∈ l, lo ≤ x ∧ x < 4000) → lo ≤ 4000 → (l.length : Int) ≤ 4000 - lo := by
          intro l
          induction l with
          | nil => intro lo _ _ h; simp; omega
          | cons x r ih =>
            intro lo h1 h2 _
            rw [List.pairwise_cons] at h1
            have hx := h2 x (by simp)
            have := ih (x + 1) h1.2 (fun y hy => ⟨by have := h1.1 y hy; omega, (h2 y (by simp [hy])).2⟩) (by omega)
            simp only [List.length_cons]
            omega
        have := this v 0 p1 (fun x hx => ⟨(p2 x hx).1, by have := (p2 x hx).2; rw [List.length_take] at this; omega⟩) (by omega)
        omega
      refine ⟨T', _, rfl, .inl (.inl upd_same), rfl, _, _, rfl, _, _, rfl, rfl, ?_⟩
      refine ⟨_, rfl, rfl, _, rfl, iteDF (fun z => by have := V.int.inj z; omega) ⟨_, rfl, isi_int_int _ ⟨true, rfl, iteF ⟨_, rfl, isi_int_bool _ ⟨false, rfl, iteF ?_⟩⟩⟩⟩⟩
      have nTl : l ≠ T' := ne_of_none hv nT
      have s2 : Same H (upd H1 T' (.tup [.int (i : Nat), .int e])) := s1.trans (same_new nT)
      refine ⟨fun m σ H' => σ = [some (.ref a), some (.ref l), some (.int (i : Nat)), some (.int e)] ∧ Same H H' ∧ H' l = some (.lst (vI (v.take m))) ∧ a0 ≤ m ∧ m ≤ v.length,
        ⟨v.length, rfl, s2, by rw [upd_ne nTl, List.take_length]; exact hv, ha0, Nat.le_refl _⟩, ?_⟩
      rintro m σ H3 ⟨rfl, s3, h3, m1, m2⟩
      refine ⟨_, rfl, Nat.zero_le _, fun e2 ne2 => ?_⟩
      have nle : l ≠ e2 := ne_of_none h3 ne2
      have h4 : (upd H3 e2 (.lst [])) l = some (.lst (vI (v.take m))) := (upd_ne nle).trans h3
      have s4 : Same H (upd H3 e2 (.lst [])) := s3.trans (same_new ne2)
      have h5 : (upd H3 e2 (.lst [])) e2 = some (.lst []) := upd_same
      generalize upd H3 e2 (HO.lst []) = H4 at h4 s4 h5 ⊢
      refine ne_nil h4 h5 ⟨_, rfl, ?_⟩
      by_cases c : m = a0
      · subst c
        have hlen : (v.take m).length = m := by rw [List.length_take, Nat.min_eq_left m2]
        cases m with
        | zero =>
          rw [List.take_zero]
          refine iteF (iteF ?_)
          have ee : e = -1 := by simpa using hae.symm
          refine ⟨_, rfl, Nat.zero_le _, fun e3 ne3 => ?_⟩
          have nle3 : l ≠ e3 := ne_of_none h4 ne3
          have h6 : (upd H4 e3 (.lst [])) l = some (.lst (vI (v.take 0))) := (upd_ne nle3).trans h4
          have s6 : Same H (upd H4 e3 (.lst [])) := s4.trans (same_new ne3)
          refine eq_nil h6 upd_same ⟨_, rfl, ?_⟩
          rw [List.take_zero]
          refine iteT ⟨_, rfl, 1, rfl, rfl, _, rfl, iteNS (congrArg V.int ee) ?_⟩
          refine ⟨_, rfl, .inl ⟨rfl, _, SqL.of h6⟩, _, rfl, l, _, _, rfl, rfl, h6, ?_, some (.int (i : Nat)), some (.int e), _, rfl, fun z w ez => ?_, ?_, W2⟩
          · simp only [vI, List.length_map, List.length_take]
            exact sl_20' (by omega)
          · rw [upd_ne (ne_of_none ez nl)]
            exact s6 _ _ ez
          · rw [upd_same]
            simp [vI]
        | succ b =>
          have hb : b < v.length := by omega
          have hne : (v.take (b + 1)).isEmpty = false := by
            cases q : v.take (b + 1) with
            | nil =>
              rw [q] at hlen
              simp at hlen
            | cons _ _ => rfl
          rw [hne]
          have hlast : v[b] = e := by
            rw [List.getElem?_cons_succ, List.getElem?_eq_getElem hb] at hae
            exact Option.some.inj hae
          refine iteT ⟨_, rfl, 1, rfl, l, _, -1, _, rfl, rfl, SqL.of h4, (by rw [vI_last hb]; exact atI_last _ _), _, rfl, rfl, _, rfl, iteNS (congrArg V.int hlast) ?_⟩
          refine ⟨_, rfl, Nat.zero_le _, fun e3 ne3 => ?_⟩
          have nle3 : l ≠ e3 := ne_of_none h4 ne3
          have h6 : (upd H4 e3 (.lst [])) l = some (.lst (vI (v.take (b + 1)))) := (upd_ne nle3).trans h4
          have s6 : Same H (upd H4 e3 (.lst [])) := s4.trans (same_new ne3)
          refine eq_nil h6 upd_same ⟨_, rfl, ?_⟩
          rw [hne]
          refine iteF (iteF ?_)
          refine ⟨_, rfl, .inl ⟨rfl, _, SqL.of h6⟩, _, rfl, l, _, _, rfl, rfl, h6, ?_, some (.int (i : Nat)), some (.int e), _, rfl, fun z w ez => ?_, ?_, W2⟩
          · simp only [vI, List.length_map, List.length_take]
            exact sl_20' (by omega)
          · rw [upd_ne (ne_of_none ez nl)]
            exact s6 _ _ ez
          · rw [upd_same]
            simp [vI]
      · obtain ⟨b, rfl⟩ : ∃ b, m = b + 1 := ⟨m - 1, by omega⟩
        have hb : b < v.length := by omega
        have hne : (v.take (b + 1)).isEmpty = false := by
          cases q : v.take (b + 1) with
          | nil =>
            have : (v.take (b + 1)).length = b + 1 := by rw [List.length_take, Nat.min_eq_left m2]
            rw [q] at this
            simp at this
          | cons _ _ => rfl
        rw [hne]
        have hlast : v[b] ≠ e := by
          intro z
          have e1 : (-1 :: v)[b + 1]? = some e := by rw [List.getElem?_cons_succ, List.getElem?_eq_getElem hb, z]
          exact c (asc_inj asc e1 hae)
        refine iteT ⟨_, rfl, 1, rfl, l, _, -1, _, rfl, rfl, SqL.of h4, (by rw [vI_last hb]; exact atI_last _ _), _, rfl, rfl, _, rfl, iteNT (fun z => hlast (V.int.inj z)) ?_⟩
        refine ⟨fun σ' H' => σ' = [some (.ref a), some (.ref l), some (.int (i : Nat)), some (.int e)] ∧ Same H H' ∧ H' l = some (.lst (vI (v.take b))), fun σ' H' ⟨g1, g2, g3⟩ => ⟨b, by omega, g1, g2, g3, by omega, by omega⟩, ?_⟩
        refine ⟨_, rfl, .inl ⟨rfl, _, SqL.of h4⟩, l, _, V.int v[b], rfl, rfl, h4, ?_, rfl, fun z w ez => ?_, ?_⟩
        · rw [vI_last hb]
          simp
        · rw [upd_ne (ne_of_none ez nl)]
          exact s4 _ _ ez
        · rw [upd_same, vI_last hb]
          simp
    · rintro σ H1 ⟨v2, v3, v, rfl, s1, hv, W1⟩
      exact ⟨_, rfl, a, _, rfl, .inl (SqL.of (s1 _ _ ha)), fun p np => k _ p (s1.trans (same_new np)) upd_same⟩
end
end TW
/-! U8: walks (joined by mk.py). -/
namespace TW
open PySem PySem.Spec PyProof.Rows L2
section
variable {P : Program} {w : World} {K : PySem.W.Frag} {mg : Str → Option Value} {base : Heap}

theorem tx_append (a b : List Bool) : tx a ++ tx b = tx (a ++ b) := by
  apply TL.ext_tl
  rw [TL.tl_append]
  show (a.map sgn).toArray.toList ++ (b.map sgn).toArray.toList = ((a ++ b).map sgn).toArray.toList
  simp
theorem tx0 : ("0" : Str) = tx [false] := by decide +kernel
theorem tx1 : ("1" : Str) = tx [true] := by decide +kernel
theorem mul_one (c : Nat) : Txt.mul "1" (c : Int) = tx (List.replicate c true) := by
  have fold : ∀ (m : Nat) (acc : Array Nat), (List.replicate m (#[49] : Array Nat)).foldl (· ++ ·) acc = acc ++ ((List.replicate m true).map sgn).toArray := by
    intro m
    induction m with
    | zero => intro acc; simp
    | succ m ih =>
      intro acc
      rw [List.replicate_succ, List.foldl_cons, ih, List.replicate_succ]
      apply Array.toList_inj.mp
      simp [sgn]
  rw [tx1]
  unfold Txt.mul
  by_cases h0 : (c : Int) < 1
  · rw [if_pos h0]
    have : c = 0 := by omega
    subst this
    rfl
  · rw [if_neg h0]
    by_cases h1 : ((c : Int) == 1 || (tx [true]).length == 0) = true
    · rw [if_pos h1]
      have : c = 1 := by
        rw [tx_len] at h1
        simp at h1
        omega
      subst this
      rfl
    · rw [if_neg h1]
      have e : (tx [true]).cps = #[49] := rfl
      rw [e, Int.toNat_natCast, fold]
      simp [tx]
theorem join_tx (ys : List (List Bool)) : Txt.join ("" : Str) (ys.map tx) = tx ys.flatten := by
  have flat : ∀ l : List (List Nat), TL.joinL [] l = l.flatten := by
    intro l
    induction l with
    | nil => rfl
    | cons x r ih =>
      cases r with
      | nil => simp [TL.joinL]
      | cons y r =>
        show x ++ ([] ++ TL.joinL [] (y :: r)) = _
        rw [ih]
        simp
  apply TL.ext_tl
  rw [TL.join_eq, TL.tl_join]
  have e : TL.tl ("" : Str) = [] := by decide +kernel
  rw [e, flat, List.map_map]
  show _ = (ys.flatten.map sgn).toArray.toList
  rw [List.map_flatten]
  congr 1
theorem sc_GroupsRow : FnScope ["groups", "many"] ["groups"] (defScope sGroupsRow) := ⟨rfl, rfl, rfl, by decide +kernel, rfl, by decide +kernel, by decide +kernel⟩
theorem ok_GroupsRow (T : Txt K mg)  : Cl P w K mg base 1 "groups_row" spGroupsRow := by
  refine cl_of T.g_groups_row (fn_ok (N := ["groups", "many"]) T.f_GroupsRow sc_GroupsRow (fun vs H Q E h => ?_) (fun _ _ _ _ _ _ us hl => match us, hl with | [_], _ => rfl) (fun cdv A outer s H vs Q E hr h => ?_))
  · obtain ⟨a, gs, rfl, _⟩ := h
    rfl
  · obtain ⟨a, gs, rfl, ha, g1, g2, g3, k⟩ := h
    refine ⟨_, (pss_one (ps_ret (pe_join pe_str (pe_lc (own := [("many", 1)]) (g := gName 1) (by rfl) sc_GroupsRow.nd (pi_list (pv 0)) (blkOk_by (own := [("many", 1)]) (N := ["groups", "many"]) (sc := defScope sGroupsRow) (by decide +kernel)) (fun _ _ _ _ _ => pg_name (i := 1) sc_GroupsRow.nd rfl (Or.inl rfl)) (fun _ _ _ _ _ => pts_nil) (fun _ _ _ _ _ => (pe_op op_add_str (pe_op op_mul_str pe_str (pv 1)) pe_str)))))), ?_⟩
    refine ⟨⟨_, rfl⟩, _, rfl, a, rfl, ⟨_, SqL.of ha⟩, fun D nD => lc_list (K := K) (a := a) (xs := vN gs) (fun i H' => Same H H' ∧ H' D = some (.lst (((gs.take i).map fun c => tx (List.replicate c true ++ [false])).map V.str))) ⟨same_new nD, upd_same⟩ (fun i H' _ p => SqL.of (p.1 _ _ ha)) ?_ ?_⟩
    · rintro i x H1 hx ⟨s1, hD⟩
      unfold vN at hx
      rw [List.getElem?_map] at hx
      cases e : gs[i]? with
      | none =>
        rw [e] at hx
        cases hx
      | some c =>
        rw [e] at hx
        have ex : V.int (c : Nat) = x := Option.some.inj hx
        subst ex
        have cle : c ≤ 5000 := g2 c (List.mem_of_getElem? e)
        have ilt : i < gs.length := (List.getElem?_eq_some_iff.mp e).1
        refine ⟨rfl, tyes ⟨_, rfl, _, _, rfl, rfl, mulOk_small (by show 1 ≤ 100; decide) (by omega) (by omega), _, _, rfl, rfl, ?_, _, hD, ?_, ?_, ?_⟩⟩
        · rw [mul_one, tx_len, List.length_replicate]
          show c + 1 ≤ sizeLine
          exact sl_20 (by omega)
        · simp only [List.length_map, List.length_take]
          exact sl_20' (by omega)
        · intro b o eb
          rw [upd_ne (ne_of_none eb nD)]
          exact s1 _ _ eb
        · rw [upd_same, List.take_add_one, e, mul_one, tx0, tx_append]
          simp
    · rintro H1 ⟨s1, hD⟩
      have el : (vN gs).length = gs.length := by simp [vN]
      rw [el, List.take_length] at hD
      refine ⟨_, D, _, rfl, rfl, .inl (SqL.of hD), ?_, ?_⟩
      · have h1 : ∀ l : List Nat, ((l.map fun c => tx (List.replicate c true ++ [false])).map (·.length)).sum = l.sum + l.length := by
          intro l
          induction l with
          | nil => rfl
          | cons c r ih =>
            simp only [List.map_cons, List.sum_cons, ih, tx_len, List.length_append, List.length_replicate, List.length_cons, List.length_nil]
            omega
        rw [h1]
        have e0 : ("" : Str).length = 0 := by decide +kernel
        rw [e0]
        omega
      · rw [show (gs.map fun c => tx (List.replicate c true ++ [false])) = (gs.map fun c => List.replicate c true ++ [false]).map tx by rw [List.map_map]; rfl, join_tx, ← gRow_flat]
        exact k _ s1
theorem pf_neg {es w : List Int} (W : Wd es w) {i : Nat} {e : Int} (h : es[i]? = some e) : (e < 0 ↔ pf es i = 0) ∧ (¬ e < 0 → ∃ j : Nat, e = (j : Int) ∧ j < i ∧ pf es i = j + 1) := by
  have l := W.lt h
  rw [pf_at h]
  exact ⟨by omega, fun n => ⟨e.toNat, by omega, by omega, by omega⟩⟩
theorem sc_CountedRow : FnScope ["elders", "tops", "many", "elder"] ["elders"] (defScope sCountedRow) := ⟨rfl, rfl, rfl, by decide +kernel, rfl, by decide +kernel, by decide +kernel⟩
theorem ok_CountedRow (T : Txt K mg) (cGroupsRow : Cl P w K mg base 1 "groups_row" spGroupsRow) : Cl P w K mg base 2 "counted_row" spCountedRow := by
  refine cl_of T.g_counted_row (fn_ok (N := ["elders", "tops", "many", "elder"]) T.f_CountedRow sc_CountedRow (fun vs H Q E h => ?_) (fun _ _ _ _ _ _ us hl => match us, hl with | [_], _ => rfl) (fun cdv A outer s H vs Q E hr h => ?_))
  · obtain ⟨a, es, w', rfl, _⟩ := h
    rfl
  · obtain ⟨a, es, w', rfl, ha, W, hl, k⟩ := h
    refine ⟨_, (pss_cons (ps_set (i := 1) sc_CountedRow.nd rfl (Or.inl rfl) pe_int)
      (pss_cons (ps_set (i := 2) sc_CountedRow.nd rfl (Or.inl rfl) (pe_op op_rep (pe_lst (pa_cons pe_int pa_nil)) (pe_callB call_len_seq (by rfl) T.z_len PySem.boot_len (pa_cons (pv 0) pa_nil))))
      (pss_cons (ps_for PassesOwn.never rfl (pi_list (pv 0)) (pg_name (i := 3) sc_CountedRow.nd rfl (Or.inl rfl))
      (pss_one (ps_if (pt_cmpR op_lt (pv 3) pe_int (nomark _))
        (pss_one (ps_set (i := 1) sc_CountedRow.nd rfl (Or.inl rfl) (pe_op op_add (pv 1) pe_int)))
        (pss_one (ps_augS (pv 2) (pv 3) get_list pe_int ip_add set_list)))))
      (pss_one (ps_ret (pe_c cGroupsRow hr (pa_cons (pe_op op_cat (pe_lst (pa_cons (pv 1) pa_nil)) (pv 2)) pa_nil))))))), ?_⟩
    refine ⟨(by show 1 ≤ sizeLine; decide), fun z nz => ?_⟩
    have s1 : Same H (upd H z (.lst [.int 0])) := same_new nz
    have el : (vI es).length = es.length := by simp [vI]
    refine ⟨_, rfl, a, _, rfl, .inl (SqL.of (s1 _ _ ha)), z, _, _, rfl, rfl, upd_same, by rw [el]; omega, by rw [el]; omega, ?_, fun m nm => ?_⟩
    · rw [el, Int.toNat_natCast]
      exact sl_20 (by simp; omega)
    have nm' : H m = none := s1.free nm
    have s2 : Same H (upd (upd H z (.lst [.int 0])) m (.lst (List.replicate (((vI es).length : Nat) : Int).toNat [V.int 0]).flatten)) := s1.trans (same_new nm)
    refine ⟨_, rfl, a, rfl, ⟨_, SqL.of (s2 _ _ ha)⟩, for_list (K := K) (a := a) (xs := vI es) (fun i σ H' => ∃ v3, σ = [some (.ref a), some (.int (cn i (fun x => pf es x == 0) : Nat)), some (.ref m), v3] ∧ Same H H' ∧ H' m = some (.lst (vN ((List.range es.length).map fun j => cn i (fun x => pf es x == j + 1)))))
      ⟨_, rfl, s2, ?_⟩ (fun i σ H' _ ⟨_, _, s, _⟩ => SqL.of (s _ _ ha)) ?_ ?_⟩
    · rw [upd_same, el, Int.toNat_natCast]
      have e1 : ∀ n : Nat, (List.replicate n [V.int 0]).flatten = List.replicate n (V.int 0) := by
        intro n
        induction n with
        | zero => rfl
        | succ n ih => rw [List.replicate_succ, List.flatten_cons, ih, List.replicate_succ]; rfl
      rw [e1]
      congr 2
      unfold vN
      rw [List.map_map]
      apply List.ext_getElem?
      intro i
      rw [List.getElem?_map, List.getElem?_replicate]
      by_cases c : i < es.length
      · rw [if_pos c, List.getElem?_range c]
        rfl
      · rw [if_neg c, List.getElem?_eq_none (by simpa using c)]
        rfl
    · rintro i x σ H1 hx ⟨v3, rfl, s3, hm⟩
      obtain ⟨e, he, rfl⟩ := vI_at hx
      obtain ⟨pn, pp⟩ := pf_neg W he
      have ilt : i < es.length := (List.getElem?_eq_some_iff.mp he).1
      refine ⟨_, rfl, _, _, rfl, rfl, _, rfl, ite2 (fun c => ?_) (fun c => ?_)⟩
      · have c1 : e < 0 := of_decide_eq_true c
        have p0 := pn.mp c1
        refine ⟨_, rfl, _, _, rfl, rfl, some (.int e), ?_, s3, ?_⟩
        · have e1 : (cn i (fun x => pf es x == 0) : Int) + 1 = ((cn (i + 1) (fun x => pf es x == 0) : Nat) : Int) := by
            rw [cn_succ, p0]
            simp
          show [_, some (V.int ((cn i (fun x => pf es x == 0) : Int) + 1)), _, _] = _
          rw [e1]
        · rw [hm]
          have ef : (fun j => cn i fun x => pf es x == j + 1) = (fun j => cn (i + 1) fun x => pf es x == j + 1) := by
            funext j
            rw [cn_succ, p0]
            simp
          rw [ef]
      · have c1 : ¬ e < 0 := fun w => c (decide_eq_true w)
        obtain ⟨j, rfl, ji, pj⟩ := pp c1
        have jl : j < es.length := by omega
        have hat : (vN ((List.range es.length).map fun j => cn i (fun x => pf es x == j + 1)))[j]? = some (.int (cn i (fun x => pf es x == j + 1) : Nat)) := by
          unfold vN
          rw [List.getElem?_map, List.getElem?_map, List.getElem?_range jl]
          rfl
        have hix : ixN (vN ((List.range es.length).map fun j => cn i (fun x => pf es x == j + 1))).length (j : Int) = some j := by
          unfold ixN
          rw [if_pos (by omega), if_pos (by simp [vN]; omega), Int.toNat_natCast]
        refine ⟨_, rfl, _, rfl, m, _, _, _, rfl, rfl, SqL.of hm, at_of rfl hat, _, _, rfl, rfl, m, _, _, j, rfl, rfl, hm, hix, some (.int (j : Int)), ?_, fun b o eb => ?_, ?_⟩
        · have e1 : cn (i + 1) (fun x => pf es x == 0) = cn i (fun x => pf es x == 0) := by
            rw [cn_succ, pj]
            simp
          rw [e1]
          rfl
        · rw [upd_ne (ne_of_none eb nm')]
          exact s3 _ _ eb
        · rw [upd_same]
          congr 2
          unfold vN
          rw [List.map_map, List.map_map]
          refine set_range _ _ _ _ _ ?_ ?_
          · show V.int ((cn (i + 1) (fun x => pf es x == j + 1) : Nat) : Int) = V.int ((cn i (fun x => pf es x == j + 1) : Nat) + 1)
            rw [cn_succ, pj]
            simp
          · intro j' hj'
            show V.int ((cn (i + 1) (fun x => pf es x == j' + 1) : Nat) : Int) = V.int ((cn i (fun x => pf es x == j' + 1) : Nat) : Int)
            rw [cn_succ, pj, if_neg (by simp; omega)]
            rfl
    · rintro σ H1 ⟨v3, rfl, s3, hm⟩
      rw [el] at hm ⊢
      refine ⟨_, rfl, (by show 1 ≤ sizeLine; decide), fun q nq => ?_⟩
      have hm2 : (upd H1 q (.lst [.int (cn es.length (fun x => pf es x == 0) : Nat)])) m = some (.lst (vN ((List.range es.length).map fun j => cn es.length (fun x => pf es x == j + 1)))) := (upd_ne (ne_of_none hm nq)).trans hm
      have s4 := s3.trans (same_new (o := .lst [.int (cn es.length (fun x => pf es x == 0) : Nat)]) nq)
      refine ⟨_, rfl, q, m, _, _, rfl, rfl, upd_same, hm2, ?_, fun r nr => ?_⟩
      · simp only [vN, List.length_map, List.length_range, List.length_cons, List.length_nil]
        exact sl_20 (by omega)
      have s5 := s4.trans (same_new (o := .lst ([.int (cn es.length (fun x => pf es x == 0) : Nat)] ++ vN ((List.range es.length).map fun j => cn es.length (fun x => pf es x == j + 1)))) nr)
      have egs : [V.int (cn es.length (fun x => pf es x == 0) : Nat)] ++ vN ((List.range es.length).map fun j => cn es.length (fun x => pf es x == j + 1)) = vN ((List.range (es.length + 1)).map (cg es.length (pf es))) := by
        rw [List.range_succ_eq_map]
        simp [vN, cg]
      have erow : gRow ((List.range (es.length + 1)).map (cg es.length (pf es))) = row es.length (pf es) := gRow_row _ _ _
      refine ⟨r, (List.range (es.length + 1)).map (cg es.length (pf es)), rfl, by rw [upd_same, egs], by simp; omega, ?_, ?_, fun H2 s6 => ?_⟩
      · intro g hg
        obtain ⟨j, _, rfl⟩ := List.mem_map.mp hg
        have := cn_le es.length (fun x => pf es x == j)
        unfold cg
        omega
      · rw [sum_cg, lg_all _ _ W.hp]
        omega
      · rw [erow]
        exact k _ (s5.trans s6)
end
end TW
/-! U9: walks (joined by mk.py). -/
namespace TW
open PySem PySem.Spec PyProof.Rows L2
section
variable {P : Program} {w : World} {K : PySem.W.Frag} {mg : Str → Option Value} {base : Heap}

theorem PairsAt.but {K : PySem.W.Frag} {H H' : Hp} {a p : Addr} {C dx : Addr} {fs : List (Str × V)} {bs : List Bool} (h : PairsAt K H a bs) (s : But p H H') (hp : H p = some (.ins C dx fs)) (hk : fs.lookup ("kept" : Str) = none) (ha : a ≠ p) : PairsAt K H' a bs := by
  obtain ⟨dx', b, t, c, l, h1, h2, h3, h4⟩ := h
  have nb : b ≠ p := by
    obtain ⟨⟨dxb, hb⟩, _⟩ := id h2
    intro z
    rw [z, hp] at hb
    have e : fs = bF t bs.length := by injection hb with e; injection e
    rw [e, bF_kept] at hk
    cases hk
  have nc : c ≠ p := by
    obtain ⟨dxc, tc, uc, hc, _⟩ := id h3
    intro z
    rw [z, hp] at hc
    have e : fs = cF tc bs.length uc := by injection hc with e; injection e
    rw [e, cF_kept] at hk
    cases hk
  exact ⟨dx', b, t, c, l, s _ _ h1 ha, h2.but' s hp nb, h3.but s hp nc, h4.but s hp⟩
theorem sc_W_Init : FnScope ["self", "elders"] ["self", "elders"] (defScope sW_Init) := ⟨rfl, rfl, rfl, by decide +kernel, rfl, by decide +kernel, by decide +kernel⟩
theorem ok_W_Init (T : Txt K mg) (cCountedRow : Cl P w K mg base 2 "counted_row" spCountedRow) (cLookAt : Cl P w K mg base 1 "look_at" spLookAt) (kB : Mkk P w K mg base 2 "Bits" (cB K) (spBInit K)) (kC : Mkk P w K mg base 2 "Counts" (cC K) (spCInit K)) (kP : Mkk P w K mg base 4 "Pairs" (cP K) (spPInit K)) : Mkk P w K mg base 6 "Counted" (cW K) (spWInit K) := by
  refine mk_of T.k_Counted T.g_Counted (fn_ok (N := ["self", "elders"]) T.f_W_Init sc_W_Init (fun vs H Q E h => ?_) (fun _ _ _ _ _ _ us hl => match us, hl with | [_, _], _ => rfl) (fun cdv A outer s H vs Q E hr h => ?_))
  · obtain ⟨p, dx, a, es, w', rfl, _⟩ := h
    rfl
  · obtain ⟨p, dx, a, es, w', rfl, hp, ha, W, hl, k⟩ := h
    refine ⟨_, (pss_cons (ps_fld (pv 0) (pe_c cCountedRow hr (pa_cons (pe_c cLookAt hr (pa_cons (pv 1) pa_nil)) pa_nil)) rfl)
      (pss_cons (ps_fld (pv 0) (pe_callB call_len_seq (by rfl) T.z_len PySem.boot_len (pa_cons (pv 1) pa_nil)) rfl)
      (pss_cons (ps_fld (pv 0) (pe_mk kC hr (pa_cons (pe_mk kB hr (pa_cons (pe_fld (pv 0) rfl) pa_nil)) pa_nil)) rfl)
      (pss_one (ps_fld (pv 0) (pe_mk kP hr (pa_cons (pe_op op_add_str pe_str (pe_fld (pv 0) rfl)) pa_nil)) rfl))))), ?_⟩
    have nap : a ≠ p := ne_of ha hp (by intro z; cases z)
    have rl := row_len es.length (pf es) W.hp
    refine ⟨_, rfl, a, es, w', rfl, ha, W, hl, fun H1 l s1 hl1 => ⟨l, es, w', rfl, hl1, W, hl, fun H2 s2 => ?_⟩⟩
    have s12 := s1.trans s2
    refine ⟨_, rfl, p, cW K, dx, _, rfl, s12 _ _ hp, T.c_Counted, T.n_Counted_signs, few0, ?_⟩
    have ha3 : (upd H2 p (.ins (cW K) dx (putF "signs" (.str (tx (row es.length (pf es)))) []))) a = some (.lst (vI es)) := (upd_ne nap).trans (s12 _ _ ha)
    refine ⟨_, rfl, a, _, rfl, .inl (SqL.of ha3), _, rfl, p, cW K, dx, _, rfl, upd_same, T.c_Counted, T.n_Counted_knots, few1, ?_⟩
    have el : (vI es).length = es.length := by simp [vI]
    rw [el]
    have b4 : But p H (upd (upd H2 p (.ins (cW K) dx (putF "signs" (.str (tx (row es.length (pf es)))) []))) p (.ins (cW K) dx (putF "knots" (.int es.length) (putF "signs" (.str (tx (row es.length (pf es)))) [])))) := fun b o e nb => by
      rw [upd_ne nb, upd_ne nb]
      exact s12 _ _ e
    have hp4 : (upd (upd H2 p (.ins (cW K) dx (putF "signs" (.str (tx (row es.length (pf es)))) []))) p (.ins (cW K) dx (putF "knots" (.int es.length) (putF "signs" (.str (tx (row es.length (pf es)))) [])))) p = some (.ins (cW K) dx (putF "knots" (.int es.length) (putF "signs" (.str (tx (row es.length (pf es)))) []))) := upd_same
    generalize (upd (upd H2 p (.ins (cW K) dx (putF "signs" (.str (tx (row es.length (pf es)))) []))) p (.ins (cW K) dx (putF "knots" (.int es.length) (putF "signs" (.str (tx (row es.length (pf es)))) [])))) = H4 at b4 hp4 ⊢
    -- self.counts
    refine ⟨_, rfl, p, cW K, dx, _, _, rfl, hp4, T.c_Counted, T.n_Counted_signs, by rw [lookup_putF, if_neg (by decide +kernel), lookup_putF, if_pos rfl], fun x dx1 nx ndx nex => ⟨x, dx1, _, rfl, upd_same, by omega, fun H5 t B5 but5 => ⟨rfl, fun y dy ny ndy ney => ⟨y, dy, x, t, _, rfl, upd_same, B5.mono fun b o e => ?_, by omega, fun H6 C6 but6 => ⟨rfl, ?_⟩⟩⟩⟩⟩
    · rw [upd_ne (ne_of_none e ny), upd_ne (ne_of_none e ndy)]
      exact e
    have s45 : Same H4 H5 := Same.made nx ndx but5
    have s56 : Same H5 H6 := Same.made ny ndy but6
    have s46 := s45.trans s56
    have hp6 := s46 _ _ hp4
    have nyp : y ≠ p := (ne_of_none (s45 _ _ hp4) ny).symm
    refine ⟨_, rfl, p, cW K, dx, _, rfl, hp6, T.c_Counted, T.n_Counted_counts, few2, ?_⟩
    have C7 := C6.but (but_upd' (o := .ins (cW K) dx (putF "counts" (.ref y) (putF "knots" (.int es.length) (putF "signs" (.str (tx (row es.length (pf es)))) []))))) hp6 nyp
    have hp7 : (upd H6 p (.ins (cW K) dx (putF "counts" (.ref y) (putF "knots" (.int es.length) (putF "signs" (.str (tx (row es.length (pf es)))) []))))) p = some (.ins (cW K) dx (putF "counts" (.ref y) (putF "knots" (.int es.length) (putF "signs" (.str (tx (row es.length (pf es)))) [])))) := upd_same
    have b7 : But p H (upd H6 p (.ins (cW K) dx (putF "counts" (.ref y) (putF "knots" (.int es.length) (putF "signs" (.str (tx (row es.length (pf es)))) []))))) := fun b o e nb => by
      rw [upd_ne nb]
      exact s46 _ _ (b4 _ _ e nb)
    generalize (upd H6 p (.ins (cW K) dx (putF "counts" (.ref y) (putF "knots" (.int es.length) (putF "signs" (.str (tx (row es.length (pf es)))) []))))) = H7 at C7 hp7 b7 ⊢
    -- self.pairs
    have epr : ("1" : Str) ++ tx (row es.length (pf es)) = tx (prow es.length (pf es)) := by rw [tx1, tx_append]; rfl
    have pl := prow_len es.length (pf es) W.hp
    refine ⟨_, rfl, p, cW K, dx, _, _, rfl, hp7, T.c_Counted, T.n_Counted_signs, by rw [lookup_putF, if_neg (by decide +kernel), lookup_putF, if_neg (by decide +kernel), lookup_putF, if_pos rfl], _, _, rfl, rfl, ?_,
      fun z dz nz ndz nez => ⟨z, dz, prow es.length (pf es), congrArg (fun q => [V.ref z, V.str q]) epr, upd_same, by omega, fun i hi => ht_nonneg W.hp hi, ht_end W.hp, fun H8 P8 but8 => ⟨rfl, ?_⟩⟩⟩
    · rw [tx_len]
      show 1 + _ ≤ sizeLine
      exact sl_20 (by omega)
    have s78 : Same H7 H8 := Same.made nz ndz but8
    have hp8 := s78 _ _ hp7
    have nzp : z ≠ p := (ne_of_none hp7 nz).symm
    refine ⟨_, rfl, p, cW K, dx, _, rfl, hp8, T.c_Counted, T.n_Counted_pairs, few3, ?_⟩
    refine k _ ⟨dx, y, z, ?_, (C7.mono s78).but but_upd' hp8 nyp, P8.but but_upd' hp8 ?_ nzp⟩ fun b o e nb => ?_
    · rw [upd_same]
      rfl
    · rw [lookup_putF, if_neg (by decide +kernel), lookup_putF, if_neg (by decide +kernel), lookup_putF, if_neg (by decide +kernel)]
      rfl
    · rw [upd_ne nb]
      exact s78 _ _ (b7 _ _ e nb)
theorem sc_W_Need : FnScope ["self", "k"] ["self", "k"] (defScope sW_Need) := ⟨rfl, rfl, rfl, by decide +kernel, rfl, by decide +kernel, by decide +kernel⟩
theorem ok_W_Need (T : Txt K mg) (cIsFromNought : Cl P w K mg base 1 "is_from_nought" spIsFromNought) : Mt P w K mg base 2 (cW K) "need" (spWNeed K) := by
  refine mt_of T.c_Counted T.m_Counted_need (fn_ok (N := ["self", "k"]) T.f_W_Need sc_W_Need (fun vs H Q E h => ?_) (fun _ _ _ _ _ _ us hl => match us, hl with | [_, _], _ => rfl) (fun cdv A outer s H vs Q E hr h => ?_))
  · obtain ⟨a, n, p, k', rfl, _⟩ := h
    rfl
  · obtain ⟨a, n, p, k', rfl, ⟨dx, c, q, o1, C, Pa⟩, hk, k⟩ := h
    refine ⟨_, (pss_one (ps_if (PW.pt (pw_or (pt_not (pt_val (pe_c cIsFromNought hr (pa_cons (pv 1) pa_nil)))) (pw_or1 (pt_cmpR op_ge (pv 1) (pe_fld (pv 0) rfl) (nomark _)))))
      pss_never
      pss_nil)), ?_⟩
    refine ⟨_, rfl, (k' : Int), rfl, by omega, true, rfl, iteF ⟨_, rfl, _, rfl, a, cW K, dx, _, _, rfl, o1, T.c_Counted, T.n_Counted_knots, wF_knots _ _ _ _, _, _, rfl, rfl, _, rfl, iteDF (by omega) k⟩⟩
theorem sc_W_Row : FnScope ["self"] ["self"] (defScope sW_Row) := ⟨rfl, rfl, rfl, by decide +kernel, rfl, by decide +kernel, by decide +kernel⟩
theorem ok_W_Row (T : Txt K mg)  : Mt P w K mg base 1 (cW K) "row" (spRowW K) := by
  refine mt_of T.c_Counted T.m_Counted_row (fn_ok (N := ["self"]) T.f_W_Row sc_W_Row (fun vs H Q E h => ?_) (fun _ _ _ _ _ _ us hl => match us, hl with | [_], _ => rfl) (fun cdv A outer s H vs Q E hr h => ?_))
  · obtain ⟨a, n, p, rfl, _⟩ := h
    rfl
  · obtain ⟨a, n, p, rfl, ⟨dx, c, q, o1, C, Pa⟩, k⟩ := h
    refine ⟨_, (pss_one (ps_ret (pe_fld (pv 0) rfl))), ?_⟩
    exact ⟨_, rfl, a, cW K, dx, _, _, rfl, o1, T.c_Counted, T.n_Counted_signs, wF_signs _ _ _ _, k⟩
theorem sc_W_Group : FnScope ["self", "k", "low"] ["self", "k"] (defScope sW_Group) := ⟨rfl, rfl, rfl, by decide +kernel, rfl, by decide +kernel, by decide +kernel⟩
theorem ok_W_Group (T : Txt K mg) (mCPlaceOf : Mt P w K mg base 3 (cC K) "place_of" (spPlaceOf K)) : Mt P w K mg base 4 (cW K) "group" (spGroup K) := by
  refine mt_of T.c_Counted T.m_Counted_group (fn_ok (N := ["self", "k", "low"]) T.f_W_Group sc_W_Group (fun vs H Q E h => ?_) (fun _ _ _ _ _ _ us hl => match us, hl with | [_, _], _ => rfl) (fun cdv A outer s H vs Q E hr h => ?_))
  · obtain ⟨a, n, p, g, rfl, _⟩ := h
    rfl
  · obtain ⟨a, n, p, g, rfl, Wa, Wp, hg, k⟩ := h
    refine ⟨_, (pss_cons (ps_set (i := 2) sc_W_Group.nd rfl (Or.inl rfl) pe_int)
      (pss_cons (ps_if (pt_cmpR op_ge (pv 1) pe_int (nomark _))
      (pss_one (ps_set (i := 2) sc_W_Group.nd rfl (Or.inl rfl) (pe_op op_add (pe_m mCPlaceOf hr (pe_fld (pv 0) rfl) (pa_cons pe_int (pa_cons (pv 1) pa_nil))) pe_int)))
      pss_nil)
      (pss_one (ps_ret (pe_tup (pa_cons (pv 2) (pa_cons (pe_m mCPlaceOf hr (pe_fld (pv 0) rfl) (pa_cons pe_int (pa_cons (pe_op op_add (pv 1) pe_int) pa_nil))) pa_nil))))))), ?_⟩
    obtain ⟨dx, c, q, o1, C, Pa⟩ := id Wa
    obtain ⟨dxc, tc, uc, hc1, hc2, hc3⟩ := id C
    have rl := row_len n p Wp.hp
    have rmost := Wp.most
    have zero_at : ∀ g, g ≤ n → (row n p)[low n p (g + 1) - 1]? = some false ∧ ((low n p (g + 1) - 1 : Nat) : Int) - (rk (row n p) (low n p (g + 1) - 1) : Int) = (g : Int) := by
      intro g hg
      have e : low n p (g + 1) - 1 = low n p g + cg n p g := by rw [low_succ]; omega
      rw [e]
      refine ⟨row_nought n p hg, ?_⟩
      rw [row_rk n p hg (Nat.le_refl _)]
      simp only [low]
      omega
    have pos : ∀ g, 0 < low n p (g + 1) := fun g => by rw [low_succ]; omega
    refine ⟨_, rfl, _, _, rfl, rfl, _, rfl, ?_⟩
    have last : ∀ (H1 : Hp) (v : V), Same H H1 → v = .int (low n p g : Nat) → tRet (tTup (tCons (tVar 2) (tCons (tMeth (cC K) "place_of" (spPlaceOf K) [] E0 (tFld K (tVar 0) "counts") (tCons (tC (.int 0)) (tCons (tOp (rI0 fun i j => .int (i + j)) (tVar 1) (tC (.int 1))) tNil))) tNil))) { nx := fun _ H' => Q .non H', rt := Q } [some (.ref a), some (.int ((g : Int) - 1)), some v] H1 := by
      rintro H1 v s1 rfl
      obtain ⟨z1, z2⟩ := zero_at g hg
      refine ⟨_, rfl, _, rfl, a, cW K, dx, _, _, rfl, s1 _ _ o1, T.c_Counted, T.n_Counted_counts, wF_counts _ _ _ _, c, dxc, _, rfl, s1 _ _ hc1, cF_no (by decide +kernel) (by decide +kernel) (by decide +kernel), _, rfl, _, _, rfl, rfl, c, row n p, (g : Int), low n p (g + 1) - 1, ?_, C.mono s1, by omega, z1, z2, fun H2 s2 => ⟨(by show 2 ≤ sizeLine; decide), fun t nt => ?_⟩⟩
      · show [V.ref c, V.int 0, V.int ((g : Int) - 1 + 1)] = _
        rw [show (g : Int) - 1 + 1 = (g : Int) by omega]
      · refine k _ t ((s1.trans s2).trans (same_new nt)) ?_
        rw [upd_same]
        have := pos g
        rw [show ((low n p (g + 1) - 1 : Nat) : Int) = (low n p (g + 1) : Int) - 1 by omega]
    refine ite2 (fun z => ?_) (fun z => ?_)
    · have z1 : (0 : Int) ≤ (g : Int) - 1 := of_decide_eq_true z
      obtain ⟨g', rfl⟩ : ∃ g', g = g' + 1 := ⟨g - 1, by omega⟩
      obtain ⟨z2, z3⟩ := zero_at g' (by omega)
      refine ⟨_, rfl, a, cW K, dx, _, _, rfl, o1, T.c_Counted, T.n_Counted_counts, wF_counts _ _ _ _, c, dxc, _, rfl, hc1, cF_no (by decide +kernel) (by decide +kernel) (by decide +kernel), _, rfl, c, row n p, (g' : Int), low n p (g' + 1) - 1, ?_, C, by omega, z2, z3, fun H1 s1 => ⟨_, _, rfl, rfl, ?_⟩⟩
      · show [V.ref c, V.int 0, V.int (((g' + 1 : Nat) : Int) - 1)] = _
        rw [show ((g' + 1 : Nat) : Int) - 1 = (g' : Int) by omega]
      · refine last H1 _ s1 ?_
        have := pos g'
        show V.int (((low n p (g' + 1) - 1 : Nat) : Int) + 1) = _
        rw [show ((low n p (g' + 1) - 1 : Nat) : Int) + 1 = (low n p (g' + 1) : Int) by omega]
    · have z1 : ¬ (0 : Int) ≤ (g : Int) - 1 := fun w => z (decide_eq_true w)
      have g0 : g = 0 := by omega
      subst g0
      exact last H _ (Same.refl _) (by rw [low_zero]; rfl)
end
end TW
/-! U10: walks (joined by mk.py). -/
namespace TW
open PySem PySem.Spec PyProof.Rows L2
section
variable {P : Program} {w : World} {K : PySem.W.Frag} {mg : Str → Option Value} {base : Heap}

theorem prow_le {n : Nat} {p : Nat → Nat} (W : WdP n p) : (prow n p).length ≤ 8192 := by
  rw [prow_len n p W.hp]
  have := W.most
  omega
theorem open_of {n : Nat} {p : Nat → Nat} (W : WdP n p) {k : Nat} (hk : k < n) : OpenOf (prow n p) (low n p (k + 1)) (sg n p k) ∧ low n p (k + 1) ≠ sg n p k := by
  obtain ⟨h1, h2, h3, h4, h5⟩ := pair_of W.hp W.nc hk
  have ne : low n p (k + 1) ≠ sg n p k := by
    intro e
    rw [e, h2] at h1
    cases h1
  refine ⟨⟨(List.getElem?_eq_some_iff.mp h1).1, h2, .inr ⟨h1, by omega, h4, fun j j1 j2 => ?_⟩⟩, ne⟩
  have := h5 j j1 j2
  omega
theorem sc_W_SignOf : FnScope ["self", "k"] ["self", "k"] (defScope sW_SignOf) := ⟨rfl, rfl, rfl, by decide +kernel, rfl, by decide +kernel, by decide +kernel⟩
theorem ok_W_SignOf (T : Txt K mg) (mPPartner : Mt P w K mg base 8 (cP K) "partner" (spPartner K)) (mWGroup : Mt P w K mg base 4 (cW K) "group" (spGroup K)) : Mt P w K mg base 9 (cW K) "sign_of" (spSignOf K) := by
  refine mt_of T.c_Counted T.m_Counted_sign_of (fn_ok (N := ["self", "k"]) T.f_W_SignOf sc_W_SignOf (fun vs H Q E h => ?_) (fun _ _ _ _ _ _ us hl => match us, hl with | [_, _], _ => rfl) (fun cdv A outer s H vs Q E hr h => ?_))
  · obtain ⟨a, n, p, k', rfl, _⟩ := h
    rfl
  · obtain ⟨a, n, p, k', rfl, Wa, Wp, hk, k⟩ := h
    refine ⟨_, (pss_one (ps_ret (pe_op op_sub (pe_m mPPartner hr (pe_fld (pv 0) rfl) (pa_cons (pe_ix ix_tup (pe_m mWGroup hr (pv 0) (pa_cons (pv 1) pa_nil)) pe_int (fun _ _ => rfl)) pa_nil)) pe_int))), ?_⟩
    obtain ⟨dx, c, q, o1, C, Pa⟩ := id Wa
    obtain ⟨dxq, b, t, cq, l, q1, _, _, _⟩ := id Pa
    obtain ⟨O, ne⟩ := open_of Wp hk
    refine ⟨_, rfl, a, cW K, dx, _, _, rfl, o1, T.c_Counted, T.n_Counted_pairs, wF_pairs _ _ _ _, q, dxq, _, rfl, q1, qF_no (by decide +kernel) (by decide +kernel) (by decide +kernel) (by decide +kernel), ?_⟩
    refine ⟨_, rfl, a, dx, _, rfl, o1, wF_no (by decide +kernel) (by decide +kernel) (by decide +kernel) (by decide +kernel), _, rfl, a, n, p, k' + 1, congrArg (fun z => [V.ref a, V.int z]) (by omega), Wa, Wp, by omega, fun H1 u s1 hu => ⟨u, _, _, _, rfl, rfl, SqT.of hu, atI_nat (j := 0) rfl, ?_⟩⟩
    exact ⟨q, prow n p, low n p (k' + 1), sg n p k', rfl, Pa.mono s1, prow_le Wp, O, .inl ⟨ne, fun H2 s2 => ⟨_, _, rfl, rfl, k _ (s1.trans s2)⟩⟩⟩
theorem sc_W_Over : FnScope ["self", "k"] ["self", "k"] (defScope sW_Over) := ⟨rfl, rfl, rfl, by decide +kernel, rfl, by decide +kernel, by decide +kernel⟩
theorem ok_W_Over (T : Txt K mg) (mCAhead : Mt P w K mg base 3 (cC K) "ahead" (spAhead K)) (mWSignOf : Mt P w K mg base 9 (cW K) "sign_of" (spSignOf K)) : Mt P w K mg base 10 (cW K) "over" (spOver K) := by
  refine mt_of T.c_Counted T.m_Counted_over (fn_ok (N := ["self", "k"]) T.f_W_Over sc_W_Over (fun vs H Q E h => ?_) (fun _ _ _ _ _ _ us hl => match us, hl with | [_, _], _ => rfl) (fun cdv A outer s H vs Q E hr h => ?_))
  · obtain ⟨a, n, p, k', rfl, _⟩ := h
    rfl
  · obtain ⟨a, n, p, k', rfl, Wa, Wp, hk, k⟩ := h
    refine ⟨_, (pss_one (ps_ret (pe_op op_sub (pe_m mCAhead hr (pe_fld (pv 0) rfl) (pa_cons pe_int (pa_cons (pe_m mWSignOf hr (pv 0) (pa_cons (pv 1) pa_nil)) pa_nil))) pe_int))), ?_⟩
    obtain ⟨dx, c, q, o1, C, Pa⟩ := id Wa
    obtain ⟨dxc, tc, uc, hc1, hc2, hc3⟩ := id C
    have parts := cg_parts n p hk
    have hpk := Wp.hp k' hk
    have rl := row_len n p Wp.hp
    have lall := low_all n p Wp.hp
    have lm := low_mono n p (a := p k' + 1) (b := n + 1) (by omega)
    rw [low_succ] at lm
    have e1 : (sg n p k' : Int) - 1 = ((low n p (p k') + cr n p k' : Nat) : Int) := by unfold sg; omega
    refine ⟨_, rfl, a, cW K, dx, _, _, rfl, o1, T.c_Counted, T.n_Counted_counts, wF_counts _ _ _ _, c, dxc, _, rfl, hc1, cF_no (by decide +kernel) (by decide +kernel) (by decide +kernel), ?_⟩
    refine ⟨_, rfl, a, dx, _, rfl, o1, wF_no (by decide +kernel) (by decide +kernel) (by decide +kernel) (by decide +kernel), _, rfl, a, n, p, k', rfl, Wa, Wp, hk, fun H1 s1 => ?_⟩
    refine ⟨c, row n p, false, low n p (p k') + cr n p k', congrArg (fun z => [V.ref c, V.int 0, V.int z]) e1, C.mono s1, by omega, fun H2 s2 => ⟨_, _, rfl, rfl, ?_⟩⟩
    refine intE ?_ (k _ (s1.trans s2))
    rw [row_rk n p (by omega) (by omega)]
    simp only [Bool.false_eq_true, if_false, low]
    omega
theorem sc_W_ChildPlace : FnScope ["self", "k"] ["self", "k"] (defScope sW_ChildPlace) := ⟨rfl, rfl, rfl, by decide +kernel, rfl, by decide +kernel, by decide +kernel⟩
theorem ok_W_ChildPlace (T : Txt K mg) (mWGroup : Mt P w K mg base 4 (cW K) "group" (spGroup K)) (mWNeed : Mt P w K mg base 2 (cW K) "need" (spWNeed K)) (mWOver : Mt P w K mg base 10 (cW K) "over" (spOver K)) (mWSignOf : Mt P w K mg base 9 (cW K) "sign_of" (spSignOf K)) : Mt P w K mg base 11 (cW K) "child_place" (spChildPlace K) := by
  refine mt_of T.c_Counted T.m_Counted_child_place (fn_ok (N := ["self", "k"]) T.f_W_ChildPlace sc_W_ChildPlace (fun vs H Q E h => ?_) (fun _ _ _ _ _ _ us hl => match us, hl with | [_, _], _ => rfl) (fun cdv A outer s H vs Q E hr h => ?_))
  · obtain ⟨a, n, p, k', rfl, _⟩ := h
    rfl
  · obtain ⟨a, n, p, k', rfl, Wa, Wp, hk, k⟩ := h
    refine ⟨_, (pss_cons (ps_expr (pe_m mWNeed hr (pv 0) (pa_cons (pv 1) pa_nil)))
      (pss_one (ps_ret (pe_op op_sub (pe_op op_sub (pe_ix ix_tup (pe_m mWGroup hr (pv 0) (pa_cons (pe_m mWOver hr (pv 0) (pa_cons (pv 1) pa_nil)) pa_nil)) pe_int (fun _ _ => rfl)) pe_int) (pe_m mWSignOf hr (pv 0) (pa_cons (pv 1) pa_nil)))))), ?_⟩
    obtain ⟨dx, c, q, o1, C, Pa⟩ := id Wa
    have parts := cg_parts n p hk
    have hpk := Wp.hp k' hk
    refine ⟨_, rfl, a, dx, _, rfl, o1, wF_no (by decide +kernel) (by decide +kernel) (by decide +kernel) (by decide +kernel), _, rfl, a, n, p, k', rfl, Wa, hk, ?_⟩
    refine ⟨_, rfl, a, dx, _, rfl, o1, wF_no (by decide +kernel) (by decide +kernel) (by decide +kernel) (by decide +kernel), _, rfl, a, dx, _, rfl, o1, wF_no (by decide +kernel) (by decide +kernel) (by decide +kernel) (by decide +kernel), _, rfl, a, n, p, k', rfl, Wa, Wp, hk, fun H1 s1 => ?_⟩
    refine ⟨a, n, p, p k', rfl, Wa.mono s1, Wp, by omega, fun H2 u s2 hu => ⟨u, _, _, _, rfl, rfl, SqT.of hu, atI_nat (j := 1) rfl, _, _, rfl, rfl, ?_⟩⟩
    have s12 := s1.trans s2
    refine ⟨_, rfl, a, dx, _, rfl, s12 _ _ o1, wF_no (by decide +kernel) (by decide +kernel) (by decide +kernel) (by decide +kernel), _, rfl, a, n, p, k', rfl, Wa.mono s12, Wp, hk, fun H3 s3 => ⟨_, _, rfl, rfl, ?_⟩⟩
    refine intE ?_ (k _ (s12.trans s3))
    rw [low_succ]
    unfold sg
    omega
theorem sc_W_Stretch : FnScope ["self", "k", "low"] ["self", "k"] (defScope sW_Stretch) := ⟨rfl, rfl, rfl, by decide +kernel, rfl, by decide +kernel, by decide +kernel⟩
theorem ok_W_Stretch (T : Txt K mg) (mPPartner : Mt P w K mg base 8 (cP K) "partner" (spPartner K)) (mPRound : Mt P w K mg base 8 (cP K) "round" (spRound K)) (mWGroup : Mt P w K mg base 4 (cW K) "group" (spGroup K)) (mWNeed : Mt P w K mg base 2 (cW K) "need" (spWNeed K)) : Mt P w K mg base 9 (cW K) "stretch" (spStretch K) := by
  refine mt_of T.c_Counted T.m_Counted_stretch (fn_ok (N := ["self", "k", "low"]) T.f_W_Stretch sc_W_Stretch (fun vs H Q E h => ?_) (fun _ _ _ _ _ _ us hl => match us, hl with | [_, _], _ => rfl) (fun cdv A outer s H vs Q E hr h => ?_))
  · obtain ⟨a, n, p, k', b, rfl, _⟩ := h
    rfl
  · obtain ⟨a, n, p, k', b, rfl, Wa, Wp, hk, B, k⟩ := h
    refine ⟨_, (pss_cons (ps_expr (pe_m mWNeed hr (pv 0) (pa_cons (pv 1) pa_nil)))
      (pss_cons (ps_set (i := 2) sc_W_Stretch.nd rfl (Or.inl rfl) (pe_ix ix_tup (pe_m mWGroup hr (pv 0) (pa_cons (pv 1) pa_nil)) pe_int (fun _ _ => rfl)))
      (pss_one (ps_ret (pe_tup (pa_cons (pv 2) (pa_cons (pe_m mPPartner hr (pe_fld (pv 0) rfl) (pa_cons (pe_m mPRound hr (pe_fld (pv 0) rfl) (pa_cons (pv 2) pa_nil)) pa_nil)) pa_nil))))))), ?_⟩
    obtain ⟨dx, c, q, o1, C, Pa⟩ := id Wa
    obtain ⟨dxq, b', t, cq, l, q1, _, _, _⟩ := id Pa
    obtain ⟨O, ne⟩ := open_of Wp hk
    obtain ⟨r0, r, r1, r2, r3, r4, r5, r6, r7, r8⟩ := round_of Wp.hp Wp.nc hk B
    refine ⟨_, rfl, a, dx, _, rfl, o1, wF_no (by decide +kernel) (by decide +kernel) (by decide +kernel) (by decide +kernel), _, rfl, a, n, p, k', rfl, Wa, hk, ?_⟩
    refine ⟨_, rfl, a, dx, _, rfl, o1, wF_no (by decide +kernel) (by decide +kernel) (by decide +kernel) (by decide +kernel), _, rfl, a, n, p, k' + 1, congrArg (fun z => [V.ref a, V.int z]) (by omega), Wa, Wp, by omega, fun H1 u s1 hu => ⟨u, _, _, _, rfl, rfl, SqT.of hu, atI_nat (j := 0) rfl, ?_⟩⟩
    refine ⟨_, rfl, _, rfl, a, cW K, dx, _, _, rfl, s1 _ _ o1, T.c_Counted, T.n_Counted_pairs, wF_pairs _ _ _ _, q, dxq, _, rfl, s1 _ _ q1, qF_no (by decide +kernel) (by decide +kernel) (by decide +kernel) (by decide +kernel), ?_⟩
    refine ⟨_, rfl, a, cW K, dx, _, _, rfl, s1 _ _ o1, T.c_Counted, T.n_Counted_pairs, wF_pairs _ _ _ _, q, dxq, _, rfl, s1 _ _ q1, qF_no (by decide +kernel) (by decide +kernel) (by decide +kernel) (by decide +kernel), _, rfl, q, prow n p, low n p (k' + 1), sg n p k', r, rfl, Pa.mono s1, prow_le Wp, O, by omega, r1, r3, fun j j1 j2 => by have := r4 j j1 j2; omega, fun H2 s2 => ?_⟩
    have s12 := s1.trans s2
    refine ⟨q, prow n p, r, r, rfl, Pa.mono s12, prow_le Wp, ⟨by omega, r2, .inl rfl⟩, .inr ⟨rfl, low n p (b + 1) + 1, r5, r6, r7, fun j j1 j2 => by have := r8 j j1 j2; omega, fun H3 s3 => ?_⟩⟩
    refine ⟨(by show 2 ≤ sizeLine; decide), fun v nv => k _ v ((s12.trans s3).trans (same_new nv)) ?_⟩
    rw [upd_same, show ((low n p (b + 1) + 1 : Nat) : Int) - 1 = (low n p (b + 1) : Int) by omega]
theorem sc_W_Behind : FnScope ["self", "k"] ["self", "k"] (defScope sW_Behind) := ⟨rfl, rfl, rfl, by decide +kernel, rfl, by decide +kernel, by decide +kernel⟩
theorem ok_W_Behind (T : Txt K mg) (mCAhead : Mt P w K mg base 3 (cC K) "ahead" (spAhead K)) (mWStretch : Mt P w K mg base 9 (cW K) "stretch" (spStretch K)) : Mt P w K mg base 10 (cW K) "behind" (spBehind K) := by
  refine mt_of T.c_Counted T.m_Counted_behind (fn_ok (N := ["self", "k"]) T.f_W_Behind sc_W_Behind (fun vs H Q E h => ?_) (fun _ _ _ _ _ _ us hl => match us, hl with | [_, _], _ => rfl) (fun cdv A outer s H vs Q E hr h => ?_))
  · obtain ⟨a, n, p, k', b, rfl, _⟩ := h
    rfl
  · obtain ⟨a, n, p, k', b, rfl, Wa, Wp, hk, B, k⟩ := h
    refine ⟨_, (pss_one (ps_ret (pe_op op_sub (pe_m mCAhead hr (pe_fld (pv 0) rfl) (pa_cons pe_int (pa_cons (pe_ix ix_tup (pe_m mWStretch hr (pv 0) (pa_cons (pv 1) pa_nil)) pe_int (fun _ _ => rfl)) pa_nil))) pe_int))), ?_⟩
    obtain ⟨dx, c, q, o1, C, Pa⟩ := id Wa
    obtain ⟨dxc, tc, uc, hc1, hc2, hc3⟩ := id C
    have rl := row_len n p Wp.hp
    have lall := low_all n p Wp.hp
    have ble := B.le
    have lm := low_mono n p (a := b + 1) (b := n + 1) (by omega)
    refine ⟨_, rfl, a, cW K, dx, _, _, rfl, o1, T.c_Counted, T.n_Counted_counts, wF_counts _ _ _ _, c, dxc, _, rfl, hc1, cF_no (by decide +kernel) (by decide +kernel) (by decide +kernel), ?_⟩
    refine ⟨_, rfl, a, dx, _, rfl, o1, wF_no (by decide +kernel) (by decide +kernel) (by decide +kernel) (by decide +kernel), _, rfl, a, n, p, k', b, rfl, Wa, Wp, hk, B, fun H1 u s1 hu => ⟨u, _, _, _, rfl, rfl, SqT.of hu, atI_nat (j := 1) rfl, ?_⟩⟩
    refine ⟨c, row n p, false, low n p (b + 1), rfl, C.mono s1, by omega, fun H2 s2 => ⟨_, _, rfl, rfl, ?_⟩⟩
    refine intE ?_ (k _ (s1.trans s2))
    rw [row_rk_all n p Wp.hp (by omega)]
    simp only [Bool.false_eq_true, if_false, low]
    omega
theorem sc_W_LiesBeneath : FnScope ["self", "k", "other"] ["self", "k", "other"] (defScope sW_LiesBeneath) := ⟨rfl, rfl, rfl, by decide +kernel, rfl, by decide +kernel, by decide +kernel⟩
theorem ok_W_LiesBeneath (T : Txt K mg) (mWBehind : Mt P w K mg base 10 (cW K) "behind" (spBehind K)) (mWNeed : Mt P w K mg base 2 (cW K) "need" (spWNeed K)) : Mt P w K mg base 11 (cW K) "lies_beneath" (spLies K) := by
  refine mt_of T.c_Counted T.m_Counted_lies_beneath (fn_ok (N := ["self", "k", "other"]) T.f_W_LiesBeneath sc_W_LiesBeneath (fun vs H Q E h => ?_) (fun _ _ _ _ _ _ us hl => match us, hl with | [_, _, _], _ => rfl) (fun cdv A outer s H vs Q E hr h => ?_))
  · obtain ⟨a, n, p, k', o, b, rfl, _⟩ := h
    rfl
  · obtain ⟨a, n, p, k', o, b, rfl, Wa, Wp, hk, ho, B, k⟩ := h
    refine ⟨_, (pss_cons (ps_expr (pe_m mWNeed hr (pv 0) (pa_cons (pv 1) pa_nil)))
      (pss_cons (ps_expr (pe_m mWNeed hr (pv 0) (pa_cons (pv 2) pa_nil)))
      (pss_one (ps_ret (pe_chain op_le op_lt (pv 2) (pv 1) (pe_m mWBehind hr (pv 0) (pa_cons (pv 2) pa_nil))))))), ?_⟩
    obtain ⟨dx, c, q, o1, C, Pa⟩ := id Wa
    refine ⟨_, rfl, a, dx, _, rfl, o1, wF_no (by decide +kernel) (by decide +kernel) (by decide +kernel) (by decide +kernel), _, rfl, a, n, p, k', rfl, Wa, hk, ?_⟩
    refine ⟨_, rfl, a, dx, _, rfl, o1, wF_no (by decide +kernel) (by decide +kernel) (by decide +kernel) (by decide +kernel), _, rfl, a, n, p, o, rfl, Wa, ho, ?_⟩
    refine ⟨_, rfl, _, rfl, _, _, rfl, rfl, _, rfl, ite2 (fun z => ?_) (fun z => ?_)⟩
    · have z1 : (o : Int) ≤ (k' : Int) := of_decide_eq_true z
      refine ⟨_, rfl, a, dx, _, rfl, o1, wF_no (by decide +kernel) (by decide +kernel) (by decide +kernel) (by decide +kernel), _, rfl, a, n, p, o, b, rfl, Wa, Wp, ho, B, fun H1 s1 => ⟨_, _, rfl, rfl, ?_⟩⟩
      have k1 := k _ s1
      have e : decide ((k' : Int) < (b : Int)) = decide (o ≤ k' ∧ k' < b) := by
        rw [Bool.eq_iff_iff, decide_eq_true_eq, decide_eq_true_eq]
        omega
      show Q (V.bl (decide ((k' : Int) < (b : Int)))) H1
      rw [e]
      exact k1
    · have z1 : ¬ (o : Int) ≤ (k' : Int) := fun w => z (decide_eq_true w)
      have k1 := k _ (Same.refl _)
      rw [decide_eq_false (by omega)] at k1
      exact k1
end
end TW
/-! Sl: the promises of the law's own defs. -/
namespace TW
open PySem PySem.Spec PyProof.Rows L2
def cellv (ns : List Int) (k : Nat) : Int := (ns[k]?).getD 0
/-- a wood's elders stand, new, at l -/
def WoodL (H H' : Hp) (l : Addr) (es : List Int) : Prop := Same H H' ∧ H' l = some (.lst (vI es)) ∧ ∃ w, Wd es w
def spLawCellAt (K : PySem.W.Frag) : Sp := fun vs H Q _ => ∃ (a : Addr) (ns : List Int) (k : Nat), vs = [.ref a, .int (k : Nat)] ∧ SqL K H a (vI ns) ∧ Q (.int (cellv ns k)) H
def spLawTwice : Sp := fun vs H Q _ => ∃ (c : Int) (k : Nat), vs = [.int c, .int (k : Nat)] ∧ k ≤ 1000 ∧ ∀ r : Int, Q (.int r) H
def spLawGrown : Sp := fun vs H Q _ => ∃ (c : Int) (m : Nat), vs = [.int c, .int (m : Nat)] ∧ m ≤ 60 ∧ ∀ H' l es, WoodL H H' l es → es.length = m → Q (.ref l) H'
def spLawDrawn (K : PySem.W.Frag) : Sp := fun vs H Q _ => ∃ (a : Addr) (ns : List Int) (m : Nat), vs = [.ref a, .int (m : Nat)] ∧ SqL K H a (vI ns) ∧ m ≤ 60 ∧ ∀ H' l es, WoodL H H' l es → es.length = m → Q (.ref l) H'
def spLawRepeated : Sp := fun vs H Q _ => ∃ (a : Addr) (es : List Int) (t : Nat) (b : Bool), vs = [.ref a, .int (t : Nat), .bl b] ∧ H a = some (.lst (vI es)) ∧ (∃ w, Wd es w) ∧ es ≠ [] ∧ es.length * (t + 1) ≤ 4000 ∧ t ≤ 4000 ∧
  ∀ H' l fs, WoodL H H' l fs → fs.length = es.length * (t + 1) → Q (.ref l) H'
def spLawWood (K : PySem.W.Frag) : Sp := fun vs H Q _ => ∃ (a : Addr) (ns : List Int), vs = [.ref a, .int 60, .int 120] ∧ SqL K H a (vI ns) ∧ ∀ H' l es, WoodL H H' l es → es.length ≤ 180 → Q (.ref l) H'
/-- the plain wood stands at t -/
def PlainAt (H : Hp) (t : Addr) (n : Nat) (p : Nat → Nat) : Prop := ∃ (i tp d b : Addr) (rs : List Addr), H t = some (.tup [.ref i, .ref tp, .ref d, .ref b]) ∧ H i = some (.lst (rs.map V.ref)) ∧ rs.length = n ∧ (∀ j r, rs[j]? = some r → H r = some (.lst (vN (chl n p (j + 1))))) ∧
  H tp = some (.lst (vN (chl n p 0))) ∧ H b = some (.lst (vI ((List.range n).map fun j => fb n p j - 1)))
theorem PlainAt.mono {H H' : Hp} {t : Addr} {n : Nat} {p : Nat → Nat} (S : Same H H') (h : PlainAt H t n p) : PlainAt H' t n p := by
  obtain ⟨i, tp, d, b, rs, h1, h2, h3, h4, h5, h6⟩ := h
  exact ⟨i, tp, d, b, rs, S _ _ h1, S _ _ h2, h3, fun j r e => S _ _ (h4 j r e), S _ _ h5, S _ _ h6⟩
def spLawPlain : Sp := fun vs H Q _ => ∃ (a : Addr) (es w : List Int), vs = [.ref a] ∧ H a = some (.lst (vI es)) ∧ Wd es w ∧ es.length ≤ 4000 ∧ ∀ H' t, Same H H' → PlainAt H' t es.length (pf es) → Q (.ref t) H'
def spLawIs : Sp := fun vs H Q _ => ∃ i : Int, vs = [.int i, .int i] ∧ Q (.bl true) H
def spLawSome : Sp := fun vs H Q _ => ∃ (m : Nat) (r : Int), vs = [.int (m : Nat), .int r] ∧ 0 < m ∧ m ≤ 4000 ∧ ∀ H' l ks, Same H H' → H' l = some (.lst (vN ks)) → (∀ k ∈ ks, k < m) → ks.length ≤ 8 → Q (.ref l) H'
/-- where the groups begin -/
def begs (n : Nat) (p : Nat → Nat) : List Nat := (List.range (n + 1)).map fun j => low n p (j + 1)
def spLawBegins : Sp := fun vs H Q _ => ∃ (t : Addr) (n : Nat) (p : Nat → Nat), vs = [.ref t] ∧ PlainAt H t n p ∧ n ≤ 4000 ∧ ∀ H' l, Same H H' → H' l = some (.lst (vN (begs n p))) → Q (.ref l) H'
def spLawRight (K : PySem.W.Frag) : Sp := fun vs H Q _ => ∃ (a e t l : Addr) (es w : List Int) (k : Nat), vs = [.ref a, .ref e, .ref t, .ref l, .int (k : Nat)] ∧ WoodAt K H a es.length (pf es) ∧ H e = some (.lst (vI es)) ∧ Wd es w ∧ es.length ≤ 4000 ∧ PlainAt H t es.length (pf es) ∧ H l = some (.lst (vN (begs es.length (pf es)))) ∧ k < es.length ∧ Ret (.bl true) H Q
def spLaw (K : PySem.W.Frag) : Sp := fun vs H Q _ => ∃ (a : Addr) (ns : List Int), vs = [.ref a] ∧ SqL K H a (ns.map V.int) ∧ ns.length ≤ 63 ∧ ∀ H', Q (.bl true) H'
end TW
/-! U11: walks (joined by mk.py). -/
namespace TW
open PySem PySem.Spec PyProof.Rows L2
section
variable {P : Program} {w : World} {K : PySem.W.Frag} {mg : Str → Option Value} {base : Heap}

theorem cutV_to (xs : List V) {m : Nat} {b : Int} (hb : b = (m : Int)) : cutV xs none (some b) = xs.take m := by
  subst hb
  unfold cutV
  rw [HT.sIx_none, HT.sIx_nat, List.drop_zero, Nat.sub_zero]
  by_cases h : m ≤ xs.length
  · rw [Nat.min_eq_left h]
  · rw [Nat.min_eq_right (by omega), List.take_of_length_le (Nat.le_refl _), List.take_of_length_le (by omega)]
theorem sc_LawCellAt : FnScope ["_law_script", "_law_k"] ["_law_script", "_law_k"] (defScope sLawCellAt) := ⟨rfl, rfl, rfl, by decide +kernel, rfl, by decide +kernel, by decide +kernel⟩
theorem ok_LawCellAt (T : Txt K mg)  : Cl P w K mg base 1 "_law_cell_at" (spLawCellAt K) := by
  refine cl_of T.g_law_cell_at (fn_ok (N := ["_law_script", "_law_k"]) T.f_LawCellAt sc_LawCellAt (fun vs H Q E h => ?_) (fun _ _ _ _ _ _ us hl => match us, hl with | [_, _], _ => rfl) (fun cdv A outer s H vs Q E hr h => ?_))
  · obtain ⟨a, ns, k', rfl, _⟩ := h
    rfl
  · obtain ⟨a, ns, k', rfl, S, k⟩ := h
    refine ⟨_, (pss_cons (ps_if (pt_cmpR op_lt (pv 1) (pe_callB call_len_seq (by rfl) T.z_len PySem.boot_len (pa_cons (pv 0) pa_nil)) (nomark _))
      (pss_one (ps_ret (pe_ix ix_list (pv 0) (pv 1) (fun _ _ => rfl))))
      pss_nil)
      (pss_one (ps_ret pe_int))), ?_⟩
    have el : (vI ns).length = ns.length := by simp [vI]
    refine ⟨_, rfl, _, rfl, a, _, rfl, .inl S, _, _, rfl, rfl, _, rfl, ite2 (fun z => ?_) (fun z => ?_)⟩
    · have z1 : (k' : Int) < ((vI ns).length : Int) := of_decide_eq_true z
      rw [el] at z1
      have e := List.getElem?_eq_getElem (show k' < ns.length by omega)
      have e2 : (vI ns)[k']? = some (.int ns[k']) := by unfold vI; rw [List.getElem?_map, e]; rfl
      refine ⟨_, rfl, _, rfl, a, _, _, _, rfl, rfl, S, at_of rfl e2, ?_⟩
      have ek : cellv ns k' = ns[k'] := by unfold cellv; rw [e]; rfl
      rw [ek] at k
      exact k
    · have z1 : ¬ (k' : Int) < ((vI ns).length : Int) := fun w => z (decide_eq_true w)
      rw [el] at z1
      have ek : cellv ns k' = 0 := by unfold cellv; rw [List.getElem?_eq_none (by omega)]; rfl
      rw [ek] at k
      exact k
theorem sc_LawTwice : FnScope ["_law_cell", "_law_k", "_law_number"] ["_law_cell", "_law_k"] (defScope sLawTwice) := ⟨rfl, rfl, rfl, by decide +kernel, rfl, by decide +kernel, by decide +kernel⟩
theorem ok_LawTwice (T : Txt K mg)  : Cl P w K mg base 1 "_law_twice" spLawTwice := by
  refine cl_of T.g_law_twice (fn_ok (N := ["_law_cell", "_law_k", "_law_number"]) T.f_LawTwice sc_LawTwice (fun vs H Q E h => ?_) (fun _ _ _ _ _ _ us hl => match us, hl with | [_, _], _ => rfl) (fun cdv A outer s H vs Q E hr h => ?_))
  · obtain ⟨c, k', rfl, _⟩ := h
    rfl
  · obtain ⟨c, k', rfl, hk, k⟩ := h
    refine ⟨_, (pss_cons (ps_set (i := 2) sc_LawTwice.nd rfl (Or.inl rfl) (pe_op op_mod (pe_op op_mul (pe_op op_add (pe_op op_add (pe_op op_add (pe_op op_mod (pv 0) pe_int) (pe_op op_mul (pe_op op_mul pe_int (pv 1)) (pv 1))) (pv 1)) pe_int) pe_int) pe_int))
      (pss_one (ps_ret (pe_op op_fdiv (pe_op op_mod (pe_op op_mul (pe_op op_add (pv 2) (pv 1)) pe_int) pe_int) pe_int)))), ?_⟩
    refine ⟨_, rfl, _, _, rfl, rfl, (by show (0 : Int) < 2147483647; decide), _, rfl, _, _, rfl, rfl, .inl ⟨by decide, by decide⟩, _, rfl, _, _, rfl, rfl, .inl ⟨by omega, by omega⟩, _, _, rfl, rfl, _, rfl, _, _, rfl, rfl, _, _, rfl, rfl, _, _, rfl, rfl, .inr ⟨by decide, by decide⟩, _, _, rfl, rfl, (by show (0 : Int) < 2147483629; decide), ?_⟩
    refine ⟨_, rfl, _, rfl, _, _, rfl, rfl, _, _, rfl, rfl, .inr ⟨by decide, by decide⟩, _, _, rfl, rfl, (by show (0 : Int) < 2147483647; decide), _, _, rfl, rfl, ⟨by decide, by decide⟩, ?_⟩
    exact k _
theorem sc_LawIs : FnScope ["_law_found", "_law_due"] ["_law_found", "_law_due"] (defScope sLawIs) := ⟨rfl, rfl, rfl, by decide +kernel, rfl, by decide +kernel, by decide +kernel⟩
theorem ok_LawIs (T : Txt K mg)  : Cl P w K mg base 1 "_law_is" spLawIs := by
  refine cl_of T.g_law_is (fn_ok (N := ["_law_found", "_law_due"]) T.f_LawIs sc_LawIs (fun vs H Q E h => ?_) (fun _ _ _ _ _ _ us hl => match us, hl with | [_, _], _ => rfl) (fun cdv A outer s H vs Q E hr h => ?_))
  · obtain ⟨i, rfl, _⟩ := h
    rfl
  · obtain ⟨i, rfl, k⟩ := h
    refine ⟨_, (pss_cons (ps_if (pt_cmpR op_isN (pv 1) pe_non (nomark _))
      (pss_one (ps_ret (pe_cmpR op_isN (pv 0) pe_non (nomark _))))
      pss_nil)
      (pss_one (ps_ret (pe_and (pe_isi (T := "int") T.z_isinstance T.z_int (pv 0)) (pe_and (pe_not (pe_isi (T := "bool") T.z_isinstance T.z_bool (pv 0))) (pe_one (pe_cmpR op_eq (pv 0) (pv 1) (nomark _)))))))), ?_⟩
    refine ⟨_, rfl, rfl, _, rfl, iteDF (fun z => by cases z) ?_⟩
    refine ⟨_, rfl, isi_int_int _ ⟨true, rfl, iteT ?_⟩⟩
    refine ⟨_, rfl, isi_int_bool _ ⟨false, rfl, ⟨true, rfl, iteT ?_⟩⟩⟩
    exact ⟨_, rfl, _, rfl, rfl, blT rfl k⟩
theorem sc_LawGrown : FnScope ["_law_cell", "_law_many", "_law_elders", "_law_way", "_law_k", "_law_at"] ["_law_cell", "_law_many"] (defScope sLawGrown) := ⟨rfl, rfl, rfl, by decide +kernel, rfl, by decide +kernel, by decide +kernel⟩
theorem ok_LawGrown (T : Txt K mg)  : Cl P w K mg base 1 "_law_grown" spLawGrown := by
  refine cl_of T.g_law_grown (fn_ok (N := ["_law_cell", "_law_many", "_law_elders", "_law_way", "_law_k", "_law_at"]) T.f_LawGrown sc_LawGrown (fun vs H Q E h => ?_) (fun _ _ _ _ _ _ us hl => match us, hl with | [_, _], _ => rfl) (fun cdv A outer s H vs Q E hr h => ?_))
  · obtain ⟨c, m, rfl, _⟩ := h
    rfl
  · obtain ⟨c, m, rfl, hm, k⟩ := h
    refine ⟨_, (pss_cons (ps_set (i := 2) sc_LawGrown.nd rfl (Or.inl rfl) (pe_lst pa_nil))
      (pss_cons (ps_set (i := 3) sc_LawGrown.nd rfl (Or.inl rfl) (pe_lst pa_nil))
      (pss_cons (ps_for PassesOwn.never rfl (pi_range1 (by rfl) T.z_range (pa_cons (pv 1) pa_nil)) (pg_name (i := 4) sc_LawGrown.nd rfl (Or.inl rfl))
      (pss_cons (ps_set (i := 5) sc_LawGrown.nd rfl (Or.inl rfl) (pe_op op_modN (pv 0) (pe_op op_add (pe_callB call_len_seq (by rfl) T.z_len PySem.boot_len (pa_cons (pv 3) pa_nil)) pe_int)))
        (pss_cons (ps_set (i := 0) sc_LawGrown.nd rfl (Or.inl rfl) (pe_op op_fdivN (pv 0) (pe_op op_add (pe_callB call_len_seq (by rfl) T.z_len PySem.boot_len (pa_cons (pv 3) pa_nil)) pe_int)))
        (pss_cons (ps_expr (pe_bm PySem.F.plainAttrs_list PySem.F.slot_list_append PySem.F.type_list_append mt_append (pv 2) (pa_cons (pe_ix ix_list (pe_op op_cat (pe_lst (pa_cons (pe_un un_neg pe_int) pa_nil)) (pv 3)) (pv 5) (fun _ _ => rfl)) pa_nil)))
        (pss_one (ps_set (i := 3) sc_LawGrown.nd rfl (Or.inl rfl) (pe_op op_cat (pe_slice sl_list (pv 3) po_none (po_some (pv 5))) (pe_lst (pa_cons (pv 4) pa_nil)))))))))
      (pss_one (ps_ret (pv 2)))))), ?_⟩
    refine ⟨Nat.zero_le _, fun l nl => ⟨Nat.zero_le _, fun w0 nw => ?_⟩⟩
    have hl0 : (upd H l (.lst [])) l = some (.lst []) := upd_same
    have nlw : l ≠ w0 := ne_of_none hl0 nw
    refine ⟨_, rfl, _, rfl, by omega, by omega, for_range (lo := 0) (n := ((m : Nat) : Int).toNat) (fun i σ H1 => ∃ (c : Int) (v4 v5 : Option V) (es v : List Int) (wA : Addr), σ = [some (.int c), some (.int (m : Nat)), some (.ref l), some (.ref wA), v4, v5] ∧ Same H H1 ∧ H1 l = some (.lst (vI es)) ∧ H1 wA = some (.lst (vI v)) ∧ Wd es v ∧ es.length = i ∧ wA ≠ l)
      ⟨c, none, none, [], [], w0, rfl, (same_new nl).trans (same_new nw), (upd_ne nlw).trans hl0, upd_same, Wd.nil, rfl, nlw.symm⟩ ?_ ?_⟩
    · rintro i σ H1 hi ⟨c, v4, v5, es, v, wA, rfl, s1, hl, hw, W1, hlen, hwl⟩
      have el : (vI v).length = v.length := by simp [vI]
      have b1 : 0 ≤ Int.fmod c (((vI v).length : Int) + 1) := by rw [Int.fmod_eq_emod_of_nonneg _ (by omega)]; exact Int.emod_nonneg _ (by omega)
      have b2 : Int.fmod c (((vI v).length : Int) + 1) < ((vI v).length : Int) + 1 := by rw [Int.fmod_eq_emod_of_nonneg _ (by omega)]; exact Int.emod_lt_of_pos _ (by omega)
      obtain ⟨a0, hat0⟩ : ∃ a0 : Nat, Int.fmod c (((vI v).length : Int) + 1) = (a0 : Int) := ⟨(Int.fmod c (((vI v).length : Int) + 1)).toNat, by omega⟩
      have ha0 : a0 ≤ v.length := by omega
      have hne : wA ≠ l := hwl
      obtain ⟨e, he⟩ : ∃ e, (-1 :: v)[a0]? = some e := ⟨(-1 :: v)[a0]'(by simp; omega), List.getElem?_eq_getElem _⟩
      have W2 := Wd.snoc W1 ha0 he
      have vl := W1.len
      have hat : ([V.int (-1)] ++ vI v)[a0]? = some (V.int e) := by
        show (vI (-1 :: v))[a0]? = _
        unfold vI
        rw [List.getElem?_map, he]
        rfl
      refine ⟨_, rfl, _, rfl, wA, _, rfl, .inl (SqL.of hw), _, _, rfl, rfl, _, _, rfl, rfl, (by show (((vI v).length : Int) + 1) ≠ 0; omega), ?_⟩
      refine ⟨_, rfl, _, rfl, wA, _, rfl, .inl (SqL.of hw), _, _, rfl, rfl, _, _, rfl, rfl, ⟨by omega, by omega⟩, ?_⟩
      refine ⟨_, rfl, .inl ⟨rfl, _, SqL.of hl⟩, 1, rfl, (by show 1 ≤ sizeLine; decide), fun q nq => ⟨_, rfl, q, wA, _, _, rfl, rfl, upd_same, (upd_ne (ne_of_none hw nq)).trans hw, ?_, fun r nr => ⟨_, rfl, r, _, _, _, rfl, rfl, SqL.of upd_same, at_of hat0 hat, l, vI es, V.int e, rfl, rfl, ?_, ?_, ?_⟩⟩⟩
      · simp only [vI, List.length_map, List.length_cons, List.length_nil]
        exact sl_20 (by omega)
      · rw [upd_ne (ne_of_none ((upd_ne (ne_of_none hl nq)).trans hl) nr), upd_ne (ne_of_none hl nq)]
        exact hl
      · simp only [vI, List.length_map]
        exact sl_20' (by omega)
      have hwq := (upd_ne (o := .lst [V.int (-1)]) (ne_of_none hw nq)).trans hw
      have hl3 : (upd (upd (upd H1 q (.lst [V.int (-1)])) r (.lst ([V.int (-1)] ++ vI v))) l (.lst (vI es ++ [V.int e]))) l = some (.lst (vI (es ++ [e]))) := by
        rw [upd_same]
        simp [vI]
      have hw3 : (upd (upd (upd H1 q (.lst [V.int (-1)])) r (.lst ([V.int (-1)] ++ vI v))) l (.lst (vI es ++ [V.int e]))) wA = some (.lst (vI v)) := by
        rw [upd_ne hne, upd_ne (ne_of_none hwq nr), upd_ne (ne_of_none hw nq)]
        exact hw
      have s3 : Same H (upd (upd (upd H1 q (.lst [V.int (-1)])) r (.lst ([V.int (-1)] ++ vI v))) l (.lst (vI es ++ [V.int e]))) := by
        have sa := (s1.trans (same_new nq)).trans (same_new (o := .lst ([V.int (-1)] ++ vI v)) nr)
        intro b o eb
        rw [upd_ne (ne_of_none eb nl)]
        exact sa _ _ eb
      generalize (upd (upd (upd H1 q (.lst [V.int (-1)])) r (.lst ([V.int (-1)] ++ vI v))) l (.lst (vI es ++ [V.int e]))) = H3 at hl3 hw3 s3 ⊢
      refine ⟨_, rfl, _, rfl, _, rfl, wA, _, rfl, SqL.of hw3, fun u nu => ⟨_, rfl, (by show 1 ≤ sizeLine; decide), fun t nt => ?_⟩⟩
      rw [cutV_to (m := a0) _ hat0] at nt ⊢
      have hu4 : (upd H3 u (.lst ((vI v).take a0))) u = some (.lst ((vI v).take a0)) := upd_same
      refine ⟨u, t, _, _, rfl, rfl, (upd_ne (ne_of_none hu4 nt)).trans hu4, upd_same, ?_, fun x nx => ?_⟩
      · simp only [List.length_take, vI, List.length_map, List.length_cons, List.length_nil]
        exact sl_20 (by omega)
      have sx : Same H3 (upd (upd (upd H3 u (.lst ((vI v).take a0))) t (.lst [V.int (0 + (i : Int))])) x (.lst ((vI v).take a0 ++ [V.int (0 + (i : Int))]))) := ((same_new nu).trans (same_new nt)).trans (same_new nx)
      have hxl : x ≠ l := by
        have hl5 := ((same_new (o := .lst ((vI v).take a0)) nu).trans (same_new (o := .lst [V.int (0 + (i : Int))]) nt)) _ _ hl3
        exact (ne_of_none hl5 nx).symm
      have hx : (upd (upd (upd H3 u (.lst ((vI v).take a0))) t (.lst [V.int (0 + (i : Int))])) x (.lst ((vI v).take a0 ++ [V.int (0 + (i : Int))]))) x = some (.lst (vI (v.take a0 ++ [(es.length : Int)]))) := by
        rw [upd_same, hlen, Int.zero_add]
        simp [vI]
      exact ⟨_, some (.int (0 + (i : Int))), some (.int (Int.fmod c (((vI v).length : Int) + 1))), es ++ [e], v.take a0 ++ [(es.length : Int)], x, rfl, s3.trans sx, sx _ _ hl3, hx, W2, by simp [hlen], hxl⟩
    · rintro σ H1 ⟨c, v4, v5, es, v, wA, rfl, s1, hl, hw, W1, hlen, hwl⟩
      exact ⟨_, rfl, k _ l es ⟨s1, hl, v, W1⟩ (by omega)⟩
end
end TW
/-! U12: walks (joined by mk.py). -/
namespace TW
open PySem PySem.Spec PyProof.Rows L2
section
variable {P : Program} {w : World} {K : PySem.W.Frag} {mg : Str → Option Value} {base : Heap}

theorem vI_atD {es : List Int} {i : Nat} {x : V} (h : (vI es)[i]? = some x) : ∃ e, es[i]? = some e ∧ x = .int e := by
  unfold vI at h
  rw [List.getElem?_map] at h
  cases q : es[i]? with
  | none =>
    rw [q] at h
    cases h
  | some e =>
    rw [q] at h
    exact ⟨e, rfl, (Option.some.inj h).symm⟩
theorem sc_LawDrawn : FnScope ["_law_script", "_law_many", "_law_elders", "_law_way", "_law_k", "_law_number", "_law_size", "_law_turn", "_law_at"] ["_law_script", "_law_many"] (defScope sLawDrawn) := ⟨rfl, rfl, rfl, by decide +kernel, rfl, by decide +kernel, by decide +kernel⟩
theorem ok_LawDrawn (T : Txt K mg) (cLawCellAt : Cl P w K mg base 1 "_law_cell_at" (spLawCellAt K)) (cLawTwice : Cl P w K mg base 1 "_law_twice" spLawTwice) : Cl P w K mg base 2 "_law_drawn" (spLawDrawn K) := by
  refine cl_of T.g_law_drawn (fn_ok (N := ["_law_script", "_law_many", "_law_elders", "_law_way", "_law_k", "_law_number", "_law_size", "_law_turn", "_law_at"]) T.f_LawDrawn sc_LawDrawn (fun vs H Q E h => ?_) (fun _ _ _ _ _ _ us hl => match us, hl with | [_, _], _ => rfl) (fun cdv A outer s H vs Q E hr h => ?_))
  · obtain ⟨a, ns, m, rfl, _⟩ := h
    rfl
  · obtain ⟨a, ns, m, rfl, hS, hm, k⟩ := h
    refine ⟨_, (pss_cons (ps_set (i := 2) sc_LawDrawn.nd rfl (Or.inl rfl) (pe_lst pa_nil))
      (pss_cons (ps_set (i := 3) sc_LawDrawn.nd rfl (Or.inl rfl) (pe_lst pa_nil))
      (pss_cons (ps_for PassesOwn.never rfl (pi_range1 (by rfl) T.z_range (pa_cons (pv 1) pa_nil)) (pg_name (i := 4) sc_LawDrawn.nd rfl (Or.inl rfl))
      (pss_cons (ps_set (i := 5) sc_LawDrawn.nd rfl (Or.inl rfl) (pe_c cLawTwice hr (pa_cons (pe_c cLawCellAt hr (pa_cons (pv 0) (pa_cons (pe_op op_add pe_int (pv 4)) pa_nil))) (pa_cons (pv 4) pa_nil))))
        (pss_cons (ps_set (i := 6) sc_LawDrawn.nd rfl (Or.inl rfl) (pe_callB call_len_seq (by rfl) T.z_len PySem.boot_len (pa_cons (pv 3) pa_nil)))
        (pss_cons (ps_set (i := 7) sc_LawDrawn.nd rfl (Or.inl rfl) (pe_op op_modN (pe_op op_fdiv (pv 5) pe_int) (pe_op op_add (pv 6) pe_int)))
        (pss_cons (ps_set (i := 8) sc_LawDrawn.nd rfl (Or.inl rfl) (pe_ix ix_list (pe_lst (pa_cons (pv 7) (pa_cons (pv 6) (pa_cons (pe_callB (call_max2 rfl) (by rfl) T.z_max (by decide +kernel) (pa_cons pe_int (pa_cons (pe_op op_sub (pv 6) (pe_op op_mod (pe_op op_fdiv (pv 5) pe_int) pe_int)) pa_nil))) (pa_cons (pe_callB (call_min2 rfl) (by rfl) T.z_min (by decide +kernel) (pa_cons (pv 7) (pa_cons pe_int pa_nil))) pa_nil))))) (pe_op op_mod (pv 5) pe_int) (fun _ _ => rfl)))
        (pss_cons (ps_expr (pe_bm PySem.F.plainAttrs_list PySem.F.slot_list_append PySem.F.type_list_append mt_append (pv 2) (pa_cons (pe_ix ix_list (pe_op op_cat (pe_lst (pa_cons (pe_un un_neg pe_int) pa_nil)) (pv 3)) (pv 8) (fun _ _ => rfl)) pa_nil)))
        (pss_one (ps_set (i := 3) sc_LawDrawn.nd rfl (Or.inl rfl) (pe_op op_cat (pe_slice sl_list (pv 3) po_none (po_some (pv 8))) (pe_lst (pa_cons (pv 4) pa_nil)))))))))))
      (pss_one (ps_ret (pv 2)))))), ?_⟩
    refine ⟨Nat.zero_le _, fun l nl => ⟨Nat.zero_le _, fun w0 nw => ?_⟩⟩
    have hl0 : (upd H l (.lst [])) l = some (.lst []) := upd_same
    have nlw : l ≠ w0 := ne_of_none hl0 nw
    refine ⟨_, rfl, _, rfl, by omega, by omega, for_range (lo := 0) (n := ((m : Nat) : Int).toNat) (fun i σ H1 => ∃ (v4 v5 v6 v7 v8 : Option V) (es v : List Int) (wA : Addr), σ = [some (.ref a), some (.int (m : Nat)), some (.ref l), some (.ref wA), v4, v5, v6, v7, v8] ∧ Same H H1 ∧ H1 l = some (.lst (vI es)) ∧ H1 wA = some (.lst (vI v)) ∧ Wd es v ∧ es.length = i ∧ wA ≠ l)
      ⟨none, none, none, none, none, [], [], w0, rfl, (same_new nl).trans (same_new nw), (upd_ne nlw).trans hl0, upd_same, Wd.nil, rfl, nlw.symm⟩ ?_ ?_⟩
    · rintro i σ H1 hi ⟨v4, v5, v6, v7, v8, es, v, wA, rfl, s1, hl, hw, W1, hlen, hwl⟩
      have el : (vI v).length = v.length := by simp [vI]
      refine ⟨_, rfl, _, rfl, _, _, rfl, rfl, a, ns, 3 + i, congrArg (fun z => [V.ref a, V.int z]) (by omega), s1.seq hS, _, rfl, _, i, congrArg (fun z => [V.int (cellv ns (3 + i)), V.int z]) (by omega), by omega, fun num => ?_⟩
      refine ⟨_, rfl, wA, _, rfl, .inl (SqL.of hw), ?_⟩
      refine ⟨_, rfl, _, _, rfl, rfl, ⟨by decide, by decide⟩, _, rfl, _, _, rfl, rfl, _, _, rfl, rfl, (by show (((vI v).length : Int) + 1) ≠ 0; omega), ?_⟩
      dsimp only
      have b1 : 0 ≤ Int.fmod (num / 4) (((vI v).length : Int) + 1) := by rw [Int.fmod_eq_emod_of_nonneg _ (by omega)]; exact Int.emod_nonneg _ (by omega)
      have b2 : Int.fmod (num / 4) (((vI v).length : Int) + 1) < ((vI v).length : Int) + 1 := by rw [Int.fmod_eq_emod_of_nonneg _ (by omega)]; exact Int.emod_lt_of_pos _ (by omega)
      generalize Int.fmod (num / 4) (((vI v).length : Int) + 1) = tn at b1 b2 ⊢
      refine ⟨_, rfl, _, rfl, _, rfl, _, rfl, _, _, rfl, rfl, ⟨by decide, by decide⟩, _, _, rfl, rfl, (by show (0 : Int) < 3; decide), _, _, rfl, rfl, _, _, rfl, _, rfl, _, _, rfl, (by show 4 ≤ sizeLine; decide), fun g ng => ?_⟩
      have s1' := s1.trans (same_new (o := .lst [V.int tn, V.int ((vI v).length : Nat), V.int (if ((vI v).length : Int) - num / 4 % 3 > 0 then ((vI v).length : Int) - num / 4 % 3 else 0), V.int (if 2 < tn then 2 else tn)]) ng)
      have hpick : ∃ a0 : Nat, a0 ≤ v.length ∧ atI [V.int tn, V.int ((vI v).length : Nat), V.int (if ((vI v).length : Int) - num / 4 % 3 > 0 then ((vI v).length : Int) - num / 4 % 3 else 0), V.int (if 2 < tn then 2 else tn)] (num % 4) = some (V.int (a0 : Nat)) := by
        have h4 : num % 4 = 0 ∨ num % 4 = 1 ∨ num % 4 = 2 ∨ num % 4 = 3 := by omega
        have h3 : 0 ≤ num / 4 % 3 := by omega
        rcases h4 with h | h | h | h
        · exact ⟨tn.toNat, by omega, at_of (j := 0) h (by rw [show ((tn.toNat : Nat) : Int) = tn by omega]; rfl)⟩
        · exact ⟨v.length, by omega, at_of (j := 1) h (by rw [el]; rfl)⟩
        · refine ⟨(if ((vI v).length : Int) - num / 4 % 3 > 0 then ((vI v).length : Int) - num / 4 % 3 else 0).toNat, by split <;> omega, at_of (j := 2) h ?_⟩
          rw [show (((if ((vI v).length : Int) - num / 4 % 3 > 0 then ((vI v).length : Int) - num / 4 % 3 else 0).toNat : Nat) : Int) = (if ((vI v).length : Int) - num / 4 % 3 > 0 then ((vI v).length : Int) - num / 4 % 3 else 0) by split <;> omega]
          rfl
        · refine ⟨(if 2 < tn then 2 else tn).toNat, by split <;> omega, at_of (j := 3) h ?_⟩
          rw [show (((if 2 < tn then 2 else tn).toNat : Nat) : Int) = (if 2 < tn then 2 else tn) by split <;> omega]
          rfl
      obtain ⟨a0, ha0, hpk⟩ := hpick
      have hl' := (upd_ne (o := .lst [V.int tn, V.int ((vI v).length : Nat), V.int (if ((vI v).length : Int) - num / 4 % 3 > 0 then ((vI v).length : Int) - num / 4 % 3 else 0), V.int (if 2 < tn then 2 else tn)]) (ne_of_none hl ng)).trans hl
      have hw' := (upd_ne (o := .lst [V.int tn, V.int ((vI v).length : Nat), V.int (if ((vI v).length : Int) - num / 4 % 3 > 0 then ((vI v).length : Int) - num / 4 % 3 else 0), V.int (if 2 < tn then 2 else tn)]) (ne_of_none hw ng)).trans hw
      refine ⟨_, rfl, _, _, rfl, rfl, (by show (0 : Int) < 4; decide), g, _, _, _, rfl, rfl, SqL.of upd_same, hpk, ?_⟩
      generalize (upd H1 g (.lst [V.int tn, V.int ((vI v).length : Nat), V.int (if ((vI v).length : Int) - num / 4 % 3 > 0 then ((vI v).length : Int) - num / 4 % 3 else 0), V.int (if 2 < tn then 2 else tn)])) = H1' at hl' hw' s1' ⊢
      clear s1 hl hw hpk ng H1
      revert H1'
      intro H1 hl hw s1
      have hat0 : (a0 : Int) = (a0 : Int) := rfl
      have hne : wA ≠ l := hwl
      obtain ⟨e, he⟩ : ∃ e, (-1 :: v)[a0]? = some e := ⟨(-1 :: v)[a0]'(by simp; omega), List.getElem?_eq_getElem _⟩
      have W2 := Wd.snoc W1 ha0 he
      have vl := W1.len
      have hat : ([V.int (-1)] ++ vI v)[a0]? = some (V.int e) := by
        show (vI (-1 :: v))[a0]? = _
        unfold vI
        rw [List.getElem?_map, he]
        rfl
      refine ⟨_, rfl, .inl ⟨rfl, _, SqL.of hl⟩, 1, rfl, (by show 1 ≤ sizeLine; decide), fun q nq => ⟨_, rfl, q, wA, _, _, rfl, rfl, upd_same, (upd_ne (ne_of_none hw nq)).trans hw, ?_, fun r nr => ⟨_, rfl, r, _, _, _, rfl, rfl, SqL.of upd_same, at_of hat0 hat, l, vI es, V.int e, rfl, rfl, ?_, ?_, ?_⟩⟩⟩
      · simp only [vI, List.length_map, List.length_cons, List.length_nil]
        exact sl_20 (by omega)
      · rw [upd_ne (ne_of_none ((upd_ne (ne_of_none hl nq)).trans hl) nr), upd_ne (ne_of_none hl nq)]
        exact hl
      · simp only [vI, List.length_map]
        exact sl_20' (by omega)
      have hwq := (upd_ne (o := .lst [V.int (-1)]) (ne_of_none hw nq)).trans hw
      have hl3 : (upd (upd (upd H1 q (.lst [V.int (-1)])) r (.lst ([V.int (-1)] ++ vI v))) l (.lst (vI es ++ [V.int e]))) l = some (.lst (vI (es ++ [e]))) := by
        rw [upd_same]
        simp [vI]
      have hw3 : (upd (upd (upd H1 q (.lst [V.int (-1)])) r (.lst ([V.int (-1)] ++ vI v))) l (.lst (vI es ++ [V.int e]))) wA = some (.lst (vI v)) := by
        rw [upd_ne hne, upd_ne (ne_of_none hwq nr), upd_ne (ne_of_none hw nq)]
        exact hw
      have s3 : Same H (upd (upd (upd H1 q (.lst [V.int (-1)])) r (.lst ([V.int (-1)] ++ vI v))) l (.lst (vI es ++ [V.int e]))) := by
        have sa := (s1.trans (same_new nq)).trans (same_new (o := .lst ([V.int (-1)] ++ vI v)) nr)
        intro b o eb
        rw [upd_ne (ne_of_none eb nl)]
        exact sa _ _ eb
      generalize (upd (upd (upd H1 q (.lst [V.int (-1)])) r (.lst ([V.int (-1)] ++ vI v))) l (.lst (vI es ++ [V.int e]))) = H3 at hl3 hw3 s3 ⊢
      refine ⟨_, rfl, _, rfl, _, rfl, wA, _, rfl, SqL.of hw3, fun u nu => ⟨_, rfl, (by show 1 ≤ sizeLine; decide), fun t nt => ?_⟩⟩
      rw [cutV_to (m := a0) _ hat0] at nt ⊢
      have hu4 : (upd H3 u (.lst ((vI v).take a0))) u = some (.lst ((vI v).take a0)) := upd_same
      refine ⟨u, t, _, _, rfl, rfl, (upd_ne (ne_of_none hu4 nt)).trans hu4, upd_same, ?_, fun x nx => ?_⟩
      · simp only [List.length_take, vI, List.length_map, List.length_cons, List.length_nil]
        exact sl_20 (by omega)
      have sx : Same H3 (upd (upd (upd H3 u (.lst ((vI v).take a0))) t (.lst [V.int (0 + (i : Int))])) x (.lst ((vI v).take a0 ++ [V.int (0 + (i : Int))]))) := ((same_new nu).trans (same_new nt)).trans (same_new nx)
      have hxl : x ≠ l := by
        have hl5 := ((same_new (o := .lst ((vI v).take a0)) nu).trans (same_new (o := .lst [V.int (0 + (i : Int))]) nt)) _ _ hl3
        exact (ne_of_none hl5 nx).symm
      have hx : (upd (upd (upd H3 u (.lst ((vI v).take a0))) t (.lst [V.int (0 + (i : Int))])) x (.lst ((vI v).take a0 ++ [V.int (0 + (i : Int))]))) x = some (.lst (vI (v.take a0 ++ [(es.length : Int)]))) := by
        rw [upd_same, hlen, Int.zero_add]
        simp [vI]
      exact ⟨some (.int (0 + (i : Int))), some (.int num), some (.int ((vI v).length : Nat)), some (.int tn), some (.int (a0 : Nat)), es ++ [e], v.take a0 ++ [(es.length : Int)], x, rfl, s3.trans sx, sx _ _ hl3, hx, W2, by simp [hlen], hxl⟩
    · rintro σ H1 ⟨v4, v5, v6, v7, v8, es, v, wA, rfl, s1, hl, hw, W1, hlen, hwl⟩
      exact ⟨_, rfl, k _ l es ⟨s1, hl, v, W1⟩ (by omega)⟩
theorem sc_LawRepeated : FnScope ["_law_elders", "_law_times", "_law_hung", "_law_found", "_law_turn", "_law_size", "_law_base", "_law_elder"] ["_law_elders", "_law_times", "_law_hung"] (defScope sLawRepeated) := ⟨rfl, rfl, rfl, by decide +kernel, rfl, by decide +kernel, by decide +kernel⟩
theorem ok_LawRepeated (T : Txt K mg)  : Cl P w K mg base 1 "_law_repeated" spLawRepeated := by
  refine cl_of T.g_law_repeated (fn_ok (N := ["_law_elders", "_law_times", "_law_hung", "_law_found", "_law_turn", "_law_size", "_law_base", "_law_elder"]) T.f_LawRepeated sc_LawRepeated (fun vs H Q E h => ?_) (fun _ _ _ _ _ _ us hl => match us, hl with | [_, _, _], _ => rfl) (fun cdv A outer s H vs Q E hr h => ?_))
  · obtain ⟨a, es, t, b, rfl, _⟩ := h
    rfl
  · obtain ⟨a, es, t, b, rfl, ha, ⟨w0, W⟩, hne, hbig, ht, k⟩ := h
    refine ⟨_, (pss_cons (ps_set (i := 3) sc_LawRepeated.nd rfl (Or.inl rfl) (pe_callTy call_list_of (by rfl) T.z_list (by decide +kernel) (pa_cons (pv 0) pa_nil)))
      (pss_cons (ps_for PassesOwn.never rfl (pi_range1 (by rfl) T.z_range (pa_cons (pv 1) pa_nil)) (pg_name (i := 4) sc_LawRepeated.nd rfl (Or.inl rfl))
      (pss_cons (ps_set (i := 5) sc_LawRepeated.nd rfl (Or.inr rfl) (pe_callB call_len_seq (by rfl) T.z_len PySem.boot_len (pa_cons (pv 3) pa_nil)))
        (pss_cons (ps_set (i := 6) sc_LawRepeated.nd rfl (Or.inr rfl) (pe_un un_neg pe_int))
        (C8.pss_cut (ps_if (pt_val (pv 2))
        (pss_one (ps_set (i := 6) sc_LawRepeated.nd rfl (Or.inr rfl) (pe_op op_sub (pv 5) pe_int)))
        pss_nil)
        (pss_one (ps_set (i := 3) sc_LawRepeated.nd rfl (Or.inl rfl) (pe_op op_cat (pv 3) (pe_lc (own := [("_law_elder", 7)]) (g := gName 7) (by rfl) sc_LawRepeated.nd (pi_list (pv 0)) (blkOk_by (own := [("_law_elder", 7)]) (N := ["_law_elders", "_law_times", "_law_hung", "_law_found", "_law_turn", "_law_size", "_law_base", "_law_elder"]) (sc := defScope sLawRepeated) (by decide +kernel)) (fun _ _ _ _ _ => pg_name (i := 7) sc_LawRepeated.nd rfl (Or.inl rfl)) (fun _ _ _ _ _ => pts_nil) (fun _ _ _ _ _ => (pe_ifExp (pt_cmpR op_lt (pv 7) pe_int (nomark _)) (pv 6) (pe_op op_add (pv 7) (pv 5))))))))))))
      (pss_one (ps_ret (pv 3))))), ?_⟩
    have npos : 0 < es.length := List.length_pos_iff.mpr hne
    have el : (vI es).length = es.length := by simp [vI]
    refine ⟨_, rfl, a, _, rfl, .inl (SqL.of ha), fun f0 nf => ?_⟩
    have s0 : Same H (upd H f0 (.lst (vI es))) := same_new nf
    refine ⟨_, rfl, _, rfl, by omega, by omega, for_range (lo := 0) (n := ((t : Nat) : Int).toNat) (fun i σ H1 => ∃ (v4 v5 v6 : Option V) (fs : List Int) (fA : Addr), σ = [some (.ref a), some (.int (t : Nat)), some (.bl b), some (.ref fA), v4, v5, v6, none] ∧ Same H H1 ∧ H1 fA = some (.lst (vI fs)) ∧ (∃ w, Wd fs w) ∧ fs.length = es.length * (i + 1))
      ⟨none, none, none, es, f0, rfl, s0, upd_same, ⟨w0, W⟩, by omega⟩ ?_ ?_⟩
    · rintro i σ H1 hi ⟨v4, v5, v6, fs, fA, rfl, s1, hf, ⟨w1, W1⟩, hlen⟩
      have fel : (vI fs).length = fs.length := by simp [vI]
      have hile : es.length * (i + 1 + 1) ≤ 4000 := Nat.le_trans (Nat.mul_le_mul_left _ (by omega)) hbig
      have hex : es.length * (i + 1 + 1) = es.length * (i + 1) + es.length := by rw [Nat.mul_add _ (i + 1) 1, Nat.mul_one]
      have hfne : fs ≠ [] := by
        rintro rfl
        rw [List.length_nil, Nat.mul_add] at hlen
        omega
      refine ⟨_, rfl, fA, _, rfl, .inl (SqL.of hf), 1, rfl, ?_⟩
      refine ⟨fun σ H2 => H2 = H1 ∧ ∃ base : Int, (base = -1 ∨ (fs ≠ [] ∧ base = (fs.length : Int) - 1)) ∧ σ = [some (.ref a), some (.int (t : Nat)), some (.bl b), some (.ref fA), some (.int (0 + (i : Int))), some (.int ((vI fs).length : Nat)), some (.int base), none], ?_, ?_⟩
      · refine ⟨_, rfl, b, rfl, ?_⟩
        cases b with
        | true =>
          refine iteT ⟨_, rfl, _, _, rfl, rfl, rfl, ((vI fs).length : Int) - 1, .inr ⟨hfne, by rw [fel]⟩, rfl⟩
        | false => exact iteF ⟨rfl, -1, .inl rfl, rfl⟩
      · rintro σ H2 ⟨rfl, base, hbase, rfl⟩
        obtain ⟨w2, W2, _⟩ := W1.rep W hbase
        refine ⟨_, rfl, _, rfl, a, rfl, ⟨_, SqL.of (s1 _ _ ha)⟩, fun D nD => lc_list (K := K) (a := a) (xs := vI es) (fun j H3 => Same H2 H3 ∧ H3 D = some (.lst (vI ((es.take j).map fun e => if e < 0 then base else e + (fs.length : Int))))) ⟨same_new nD, upd_same⟩ (fun j H3 _ p => SqL.of (p.1 _ _ (s1 _ _ ha))) ?_ ?_⟩
        · rintro j x H3 hx ⟨s3, hD⟩
          obtain ⟨e, he, rfl⟩ := vI_atD hx
          have jl : j < es.length := (List.getElem?_eq_some_iff.mp he).1
          have fin : ∀ y : V, y = .int (if e < 0 then base else e + (fs.length : Int)) → ∃ acc, H3 D = some (.lst acc) ∧ acc.length < sizeLine ∧ Same H2 (upd H3 D (.lst (acc ++ [y]))) ∧ (upd H3 D (.lst (acc ++ [y]))) D = some (.lst (vI ((es.take (j + 1)).map fun e => if e < 0 then base else e + (fs.length : Int)))) := by
            rintro y rfl
            refine ⟨_, hD, ?_, fun c o ec => ?_, ?_⟩
            · simp only [vI, List.length_map, List.length_take]
              exact sl_20' (by omega)
            · rw [upd_ne (ne_of_none ec nD)]
              exact s3 _ _ ec
            · rw [upd_same, List.take_add_one, he]
              simp [vI]
          refine ⟨rfl, tyes ⟨_, rfl, _, _, rfl, rfl, _, rfl, ite2 (fun z => ?_) (fun z => ?_)⟩⟩
          · have z1 : e < 0 := of_decide_eq_true z
            exact ⟨_, rfl, fin _ (by rw [if_pos z1])⟩
          · have z1 : ¬ e < 0 := fun w => z (decide_eq_true w)
            exact ⟨_, rfl, _, rfl, _, _, rfl, rfl, fin _ (by rw [if_neg z1, fel])⟩
        · rintro H3 ⟨s3, hD⟩
          rw [el, List.take_length] at hD
          refine ⟨fA, D, _, _, rfl, rfl, s3 _ _ hf, hD, ?_, fun x nx => ?_⟩
          · simp only [vI, List.length_map]
            exact sl_20 (by omega)
          · refine ⟨some (.int (0 + (i : Int))), some (.int ((vI fs).length : Nat)), some (.int base), fs ++ es.map fun e => if e < 0 then base else e + (fs.length : Int), x, rfl, (s1.trans s3).trans (same_new nx), ?_, ⟨w2, W2⟩, ?_⟩
            · rw [upd_same]
              simp [vI]
            · simp
              omega
    · rintro σ H1 ⟨v4, v5, v6, fs, fA, rfl, s1, hf, W1, hlen⟩
      exact ⟨_, rfl, k _ fA fs ⟨s1, hf, W1⟩ (by rw [hlen, Int.toNat_natCast])⟩
end
end TW
/-! U13: walks (joined by mk.py). -/
namespace TW
open PySem PySem.Spec PyProof.Rows L2
section
variable {P : Program} {w : World} {K : PySem.W.Frag} {mg : Str → Option Value} {base : Heap}

theorem sc_LawWood : FnScope ["_law_script", "_law_most", "_law_large", "_law_number", "_law_many", "_law_elders"] ["_law_script", "_law_most", "_law_large"] (defScope sLawWood) := ⟨rfl, rfl, rfl, by decide +kernel, rfl, by decide +kernel, by decide +kernel⟩
theorem ok_LawWood (T : Txt K mg) (cLawCellAt : Cl P w K mg base 1 "_law_cell_at" (spLawCellAt K)) (cLawDrawn : Cl P w K mg base 2 "_law_drawn" (spLawDrawn K)) (cLawGrown : Cl P w K mg base 1 "_law_grown" spLawGrown) (cLawRepeated : Cl P w K mg base 1 "_law_repeated" spLawRepeated) : Cl P w K mg base 3 "_law_wood" (spLawWood K) := by
  refine cl_of T.g_law_wood (fn_ok (N := ["_law_script", "_law_most", "_law_large", "_law_number", "_law_many", "_law_elders"]) T.f_LawWood sc_LawWood (fun vs H Q E h => ?_) (fun _ _ _ _ _ _ us hl => match us, hl with | [_, _, _], _ => rfl) (fun cdv A outer s H vs Q E hr h => ?_))
  · obtain ⟨a, ns, rfl, _⟩ := h
    rfl
  · obtain ⟨a, ns, rfl, hS, k⟩ := h
    refine ⟨_, (pss_cons (ps_set (i := 3) sc_LawWood.nd rfl (Or.inl rfl) (pe_c cLawCellAt hr (pa_cons (pv 0) (pa_cons pe_int pa_nil))))
      (pss_cons (ps_set (i := 4) sc_LawWood.nd rfl (Or.inl rfl) (pe_op op_modN (pe_op op_fdiv (pv 3) pe_int) (pe_op op_add (pv 1) pe_int)))
      (pss_cons (ps_set (i := 5) sc_LawWood.nd rfl (Or.inl rfl) (pe_c cLawDrawn hr (pa_cons (pv 0) (pa_cons (pv 4) pa_nil))))
      (C8.pss_cut (ps_if (PW.pt (pw_and (pt_cmpR op_eq (pe_op op_mod (pv 3) pe_int) pe_int (nomark _)) (pw_and1 (pt_cmpR op_ge (pe_callB call_abs (by rfl) T.z_abs (by decide +kernel) (pa_cons (pe_c cLawCellAt hr (pa_cons (pv 0) (pa_cons pe_int pa_nil))) pa_nil)) (pe_op op_pow pe_int pe_int) (nomark _)))))
      (pss_one (ps_set (i := 5) sc_LawWood.nd rfl (Or.inl rfl) (pe_c cLawGrown hr (pa_cons (pe_c cLawCellAt hr (pa_cons (pv 0) (pa_cons pe_int pa_nil))) (pa_cons (pv 4) pa_nil)))))
      pss_nil)
      (C8.pss_cut (ps_if (PW.pt (pw_and (pt_cmpR op_eq (pe_op op_mod (pe_op op_fdiv (pv 3) pe_int) pe_int) pe_int (nomark _)) (pw_and1 (pt_cmpR op_gt (pv 4) pe_int (nomark _)))))
      (pss_one (ps_set (i := 5) sc_LawWood.nd rfl (Or.inl rfl) (pe_c cLawRepeated hr (pa_cons (pv 5) (pa_cons (pe_op op_fdivN (pv 2) (pv 4)) (pa_cons (pe_cmpR op_eq (pe_op op_mod (pe_c cLawCellAt hr (pa_cons (pv 0) (pa_cons pe_int pa_nil))) pe_int) pe_int (nomark _)) pa_nil))))))
      pss_nil)
      (pss_one (ps_ret (pv 5)))))))), ?_⟩
    obtain ⟨m, hm, hme⟩ : ∃ m : Nat, m ≤ 60 ∧ Int.fmod (cellv ns 0 / 8) (60 + 1) = (m : Int) := by
      have b1 : 0 ≤ Int.fmod (cellv ns 0 / 8) (60 + 1) := by rw [Int.fmod_eq_emod_of_nonneg _ (by omega)]; exact Int.emod_nonneg _ (by omega)
      have b2 : Int.fmod (cellv ns 0 / 8) (60 + 1) < 60 + 1 := by rw [Int.fmod_eq_emod_of_nonneg _ (by omega)]; exact Int.emod_lt_of_pos _ (by omega)
      exact ⟨(Int.fmod (cellv ns 0 / 8) (60 + 1)).toNat, by omega, by omega⟩
    refine ⟨_, rfl, a, ns, 0, rfl, hS, ?_⟩
    refine ⟨_, rfl, _, _, rfl, rfl, ⟨by decide, by decide⟩, _, rfl, _, _, rfl, rfl, _, _, rfl, rfl, (by show (60 + 1 : Int) ≠ 0; decide), ?_⟩
    dsimp only
    rw [hme]
    refine ⟨_, rfl, _, rfl, a, ns, m, rfl, hS, hm, fun H1 l es W1 hlen => ?_⟩
    refine ⟨fun σ H2 => ∃ (l : Addr) (es : List Int), σ = [some (.ref a), some (.int 60), some (.int 120), some (.int (cellv ns 0)), some (.int (m : Nat)), some (.ref l)] ∧ WoodL H H2 l es ∧ es.length = m, ?_, ?_⟩
    · refine ⟨_, rfl, _, _, rfl, rfl, (by show (0 : Int) < 2; decide), rfl, _, rfl, ite2 (fun z => ?_) (fun z => iteF ⟨l, es, rfl, W1, hlen⟩)⟩
      refine ⟨_, rfl, a, ns, 1, rfl, W1.1.seq hS, _, rfl, _, _, rfl, rfl, ⟨by decide, by decide, by decide⟩, _, _, rfl, rfl, _, rfl, ite2 (fun y => ?_) (fun y => ⟨l, es, rfl, W1, hlen⟩)⟩
      exact ⟨_, rfl, a, ns, 1, rfl, W1.1.seq hS, _, rfl, _, m, rfl, hm, fun H2 l2 es2 W2 hlen2 => ⟨l2, es2, rfl, ⟨W1.1.trans W2.1, W2.2⟩, hlen2⟩⟩
    · rintro σ H2 ⟨l, es, rfl, W2, hlen⟩
      refine ⟨fun σ H3 => ∃ (l : Addr) (es : List Int), σ = [some (.ref a), some (.int 60), some (.int 120), some (.int (cellv ns 0)), some (.int (m : Nat)), some (.ref l)] ∧ WoodL H H3 l es ∧ es.length ≤ 180, ?_, ?_⟩
      · refine ⟨_, rfl, _, _, rfl, rfl, ⟨by decide, by decide⟩, _, _, rfl, rfl, (by show (0 : Int) < 4; decide), rfl, _, rfl, ite2 (fun z => ?_) (fun z => iteF ⟨l, es, rfl, W2, by omega⟩)⟩
        refine ⟨_, rfl, _, _, rfl, rfl, _, rfl, ite2 (fun y => ?_) (fun y => ⟨l, es, rfl, W2, by omega⟩)⟩
        have y1 : (0 : Int) < (m : Int) := of_decide_eq_true y
        have e120 : Int.fdiv (120 : Int) (m : Int) = ((120 / m : Nat) : Int) := fdivN 120 m
        have h120 : m * (120 / m) ≤ 120 := Nat.mul_div_le 120 m
        have hle : 120 / m ≤ 120 := Nat.div_le_self _ _
        have hmul : es.length * (120 / m + 1) ≤ 180 := by rw [hlen, Nat.mul_add, Nat.mul_one]; omega
        refine ⟨_, rfl, _, rfl, _, rfl, _, _, rfl, rfl, ⟨by omega, by omega⟩, _, rfl, a, ns, 2, rfl, W2.1.seq hS, _, _, rfl, rfl, (by show (0 : Int) < 2; decide), rfl, ?_⟩
        refine ⟨l, es, 120 / m, _, congrArg (fun q => [V.ref l, V.int q, V.bl (decide (V.int (cellv ns 2 % 2) = V.int 1))]) e120, W2.2.1, W2.2.2, ?_, by omega, by omega, fun H3 l3 fs W3 hlen3 => ⟨l3, fs, rfl, ⟨W2.1.trans W3.1, W3.2⟩, by omega⟩⟩
        rintro rfl
        rw [List.length_nil] at hlen
        omega
      · rintro σ H3 ⟨l, es, rfl, W3, hlen⟩
        exact ⟨_, rfl, k _ l es W3 hlen⟩
end
end TW
/-! U14: walks (joined by mk.py). -/
namespace TW
open PySem PySem.Spec PyProof.Rows L2
section
variable {P : Program} {w : World} {K : PySem.W.Frag} {mg : Str → Option Value} {base : Heap}

theorem vI_at' {es : List Int} {i : Nat} {x : V} (h : (vI es)[i]? = some x) : ∃ e, es[i]? = some e ∧ x = .int e := by
  unfold vI at h
  rw [List.getElem?_map] at h
  cases q : es[i]? with
  | none =>
    rw [q] at h
    cases h
  | some e =>
    rw [q] at h
    exact ⟨e, rfl, (Option.some.inj h).symm⟩
theorem at_vI {es : List Int} {i : Nat} {e : Int} (h : es[i]? = some e) : (vI es)[i]? = some (.int e) := by
  unfold vI
  rw [List.getElem?_map, h]
  rfl
theorem pf_neg' {es w : List Int} (W : Wd es w) {i : Nat} {e : Int} (h : es[i]? = some e) : (e < 0 ↔ pf es i = 0) ∧ (¬ e < 0 → ∃ j : Nat, e = (j : Int) ∧ j < i ∧ pf es i = j + 1) := by
  have l := W.lt h
  rw [pf_at h]
  exact ⟨by omega, fun n => ⟨e.toNat, by omega, by omega, by omega⟩⟩
theorem vN_snoc (l : List Nat) (i : Nat) : vN l ++ [V.int (i : Nat)] = vN (l ++ [i]) := by simp [vN]
theorem chl_le (i : Nat) (p : Nat → Nat) (g : Nat) : (chl i p g).length ≤ i := by
  rw [chl_len]
  exact cn_le _ _
theorem sc_LawPlain : FnScope ["_law_elders", "_law_inner", "_law_tops", "_law_deep", "_law_below", "_law_k", "_law_elder"] ["_law_elders"] (defScope sLawPlain) := ⟨rfl, rfl, rfl, by decide +kernel, rfl, by decide +kernel, by decide +kernel⟩
theorem ok_LawPlain (T : Txt K mg)  : Cl P w K mg base 1 "_law_plain" spLawPlain := by
  refine cl_of T.g_law_plain (fn_ok (N := ["_law_elders", "_law_inner", "_law_tops", "_law_deep", "_law_below", "_law_k", "_law_elder"]) T.f_LawPlain sc_LawPlain (fun vs H Q E h => ?_) (fun _ _ _ _ _ _ us hl => match us, hl with | [_], _ => rfl) (fun cdv A outer s H vs Q E hr h => ?_))
  · obtain ⟨a, es, w', rfl, _⟩ := h
    rfl
  · obtain ⟨a, es, w', rfl, ha, W, hl, k⟩ := h
    refine ⟨_, (pss_cons (ps_setLc (i := 1) (own := [("_law_elder", 6)]) (g := gName 6) (by rfl) sc_LawPlain.nd rfl rfl (sw_true rfl rfl rfl (by decide +kernel)) (pi_list (pv 0)) (blkOk_by (own := [("_law_elder", 6)]) (N := ["_law_elders", "_law_inner", "_law_tops", "_law_deep", "_law_below", "_law_k", "_law_elder"]) (sc := defScope sLawPlain) (by decide +kernel)) (fun _ _ _ _ _ => pg_name (i := 6) sc_LawPlain.nd rfl (Or.inl rfl)) (fun _ _ _ _ _ => pts_nil) (fun _ _ _ _ _ => (pe_lst pa_nil)))
      (pss_cons (ps_set (i := 2) sc_LawPlain.nd rfl (Or.inl rfl) (pe_lst pa_nil))
      (pss_cons (ps_set (i := 3) sc_LawPlain.nd rfl (Or.inl rfl) (pe_lst pa_nil))
      (pss_cons (ps_for PassesOwn.never rfl (pi_enum (by rfl) T.z_enumerate (pa_cons (pv 0) pa_nil)) (pg_tup rfl (pgs_cons (pg_name (i := 5) sc_LawPlain.nd rfl (Or.inl rfl)) (pgs_cons (pg_name (i := 6) sc_LawPlain.nd rfl (Or.inl rfl)) pgs_nil)))
      (pss_one (ps_if (pt_cmpR op_lt (pv 6) pe_int (nomark _))
        (pss_cons (ps_expr (pe_bm PySem.F.plainAttrs_list PySem.F.slot_list_append PySem.F.type_list_append mt_append (pv 2) (pa_cons (pv 5) pa_nil)))
          (pss_one (ps_expr (pe_bm PySem.F.plainAttrs_list PySem.F.slot_list_append PySem.F.type_list_append mt_append (pv 3) (pa_cons pe_int pa_nil)))))
        (pss_cons (ps_expr (pe_bm PySem.F.plainAttrs_list PySem.F.slot_list_append PySem.F.type_list_append mt_append (pe_ix ix_list (pv 1) (pv 6) (fun _ _ => rfl)) (pa_cons (pv 5) pa_nil)))
          (pss_one (ps_expr (pe_bm PySem.F.plainAttrs_list PySem.F.slot_list_append PySem.F.type_list_append mt_append (pv 3) (pa_cons (pe_op op_add (pe_ix ix_list (pv 3) (pv 6) (fun _ _ => rfl)) pe_int) pa_nil))))))))
      (pss_cons (ps_set (i := 4) sc_LawPlain.nd rfl (Or.inl rfl) (pe_op op_rep (pe_lst (pa_cons pe_int pa_nil)) (pe_callB call_len_seq (by rfl) T.z_len PySem.boot_len (pa_cons (pv 0) pa_nil))))
      (pss_cons (ps_for PassesOwn.never rfl (pi_revR (by rfl) T.z_reversed (prg_1 (by rfl) T.z_range (pe_callB call_len_seq (by rfl) T.z_len PySem.boot_len (pa_cons (pv 0) pa_nil)))) (pg_name (i := 5) sc_LawPlain.nd rfl (Or.inl rfl))
      (pss_one (ps_if (pt_cmpR op_ge (pe_ix ix_list (pv 0) (pv 5) (fun _ _ => rfl)) pe_int (nomark _))
        (pss_one (ps_asg (pe_op op_add (pe_op op_add (pe_ix ix_list (pv 4) (pe_ix ix_list (pv 0) (pv 5) (fun _ _ => rfl)) (fun _ _ => rfl)) (pe_ix ix_list (pv 4) (pv 5) (fun _ _ => rfl))) pe_int) (pg_sub (pv 4) (pe_ix ix_list (pv 0) (pv 5) (fun _ _ => rfl)) set_list)))
        pss_nil)))
      (pss_one (ps_ret (pe_tup (pa_cons (pv 1) (pa_cons (pv 2) (pa_cons (pv 3) (pa_cons (pv 4) pa_nil))))))))))))), ?_⟩
    have el : (vI es).length = es.length := by simp [vI]
    refine ⟨_, rfl, a, rfl, ⟨_, SqL.of ha⟩, fun D nD => lc_list (K := K) (a := a) (xs := vI es) (fun i H' => Same H H' ∧ ∃ rs : List Addr, H' D = some (.lst (rs.map V.ref)) ∧ rs.length = i ∧ (∀ (j : Nat) r, rs[j]? = some r → H' r = some (.lst [])) ∧ rs.Nodup ∧ (∀ r ∈ rs, H r = none) ∧ D ∉ rs)
      ⟨same_new nD, [], upd_same, rfl, fun j r e => by simp at e, List.nodup_nil, fun r hr => by simp at hr, by simp⟩ (fun i H' _ p => SqL.of (p.1 _ _ ha)) ?_ ?_⟩
    · rintro i x H1 hx ⟨s1, rs, hD, rl, rr, nd, rn, nDr⟩
      obtain ⟨e, he, rfl⟩ := vI_at' hx
      have ilt : i < es.length := (List.getElem?_eq_some_iff.mp he).1
      refine ⟨rfl, tyes ⟨Nat.zero_le _, fun r nr => ?_⟩⟩
      have nrD : D ≠ r := ne_of_none hD nr
      refine ⟨_, (upd_ne nrD).trans hD, by rw [List.length_map]; exact sl_20' (by omega), fun b o eb => ?_, rs ++ [r], by rw [upd_same]; simp, by simp [rl], fun j r' e' => ?_, ?_, fun r' hr' => ?_, ?_⟩
      · rw [upd_ne (ne_of_none eb nD), upd_ne (ne_of_none (s1 _ _ eb) nr)]
        exact s1 _ _ eb
      · by_cases c : j < rs.length
        · rw [List.getElem?_append_left c] at e'
          have h1 := rr j r' e'
          have n1 : r' ≠ D := fun z => nDr (by rw [← z]; exact List.mem_of_getElem? e')
          rw [upd_ne n1, upd_ne (ne_of_none h1 nr)]
          exact h1
        · rw [List.getElem?_append_right (by omega)] at e'
          have e3 : r = r' := by
            have := List.mem_of_getElem? e'
            exact (List.mem_singleton.mp this).symm
          subst e3
          rw [upd_ne nrD.symm, upd_same]
      · rw [List.nodup_append]
        refine ⟨nd, by simp, fun x hx y hy => ?_⟩
        rw [List.mem_singleton] at hy
        subst hy
        obtain ⟨j, hj⟩ := List.getElem?_of_mem hx
        exact ne_of_none (rr j x hj) nr
      · rcases List.mem_append.mp hr' with h | h
        · exact rn r' h
        · rw [List.mem_singleton] at h
          subst h
          exact s1.free nr
      · intro h
        rcases List.mem_append.mp h with h | h
        · exact nDr h
        · exact nrD (by simpa using h)
    rintro H1 ⟨s1, rs, hD, rl, rr, nd, rn, nDr⟩
    rw [el] at rl
    refine ⟨Nat.zero_le _, fun tp ntp => ⟨Nat.zero_le _, fun d nd' => ?_⟩⟩
    have ntpD : D ≠ tp := ne_of_none hD ntp
    have hD2 := (upd_ne (o := .lst []) ntpD).trans hD
    have ndD : D ≠ d := ne_of_none hD2 nd'
    have htp2 : (upd H1 tp (.lst [])) tp = some (.lst []) := upd_same
    have ndtp : tp ≠ d := ne_of_none htp2 nd'
    have rtp : tp ∉ rs := fun h => by
      obtain ⟨j, hj⟩ := List.getElem?_of_mem h
      exact ne_of_none (rr j tp hj) ntp rfl
    have rd : d ∉ rs := fun h => by
      obtain ⟨j, hj⟩ := List.getElem?_of_mem h
      have h1 := rr j d hj
      exact ne_of_none ((upd_ne (o := .lst []) (ne_of_none h1 ntp)).trans h1) nd' rfl
    have nHd : H d = none := (s1.trans (same_new ntp)).free nd'
    have nHtp : H tp = none := s1.free ntp
    have sd : Same H (upd (upd H1 tp (.lst [])) d (.lst [])) := (s1.trans (same_new ntp)).trans (same_new nd')
    refine ⟨_, rfl, a, _, rfl, SqL.of (sd _ _ ha), for_it (walk_enum (xs := vI es)) (fun i σ H' => ∃ (v5 v6 : Option V) (ds : List Int), σ = [some (.ref a), some (.ref D), some (.ref tp), some (.ref d), none, v5, v6] ∧ Same H H' ∧ H' D = some (.lst (rs.map V.ref)) ∧ (∀ j r, rs[j]? = some r → H' r = some (.lst (vN (chl i (pf es) (j + 1))))) ∧ H' tp = some (.lst (vN (chl i (pf es) 0))) ∧ H' d = some (.lst (vI ds)) ∧ ds.length = i)
      ⟨none, none, [], rfl, sd, (upd_ne ndD).trans hD2, fun j r e => ?_, (upd_ne ndtp).trans upd_same, upd_same, rfl⟩ (fun i σ H' _ ⟨_, _, _, _, s, _⟩ => SqL.of (s _ _ ha)) ?_ ?_⟩
    · have n1 : r ≠ d := fun z => rd (by rw [← z]; exact List.mem_of_getElem? e)
      have n2 : r ≠ tp := fun z => rtp (by rw [← z]; exact List.mem_of_getElem? e)
      rw [upd_ne n1, upd_ne n2]
      exact rr j r e
    · rintro i x σ H2 H3 hi ⟨v5, v6, ds, rfl, s2, gD, gr, gt, gd, dl⟩ ⟨T', x1, y, rfl, nT, rfl, ex, ey⟩
      have ex1 : x1 = .int (i : Nat) := (Option.some.inj ex).symm
      subst ex1
      obtain ⟨e, he, rfl⟩ := vI_at' ey
      have ilt : i < es.length := (List.getElem?_eq_some_iff.mp he).1
      obtain ⟨pn, pp⟩ := pf_neg' W he
      refine ⟨T', _, rfl, .inl (.inl upd_same), rfl, _, _, rfl, _, _, rfl, rfl, ?_⟩
      have sT : Same H2 (upd H2 T' (.tup [.int (i : Nat), .int e])) := same_new nT
      have s3 := s2.trans sT
      have gD3 := sT _ _ gD
      have gr3 := fun j r e => sT _ _ (gr j r e)
      have gt3 := sT _ _ gt
      have gd3 := sT _ _ gd
      generalize (upd H2 T' (.tup [.int (i : Nat), .int e])) = H3 at s3 gD3 gr3 gt3 gd3 ⊢
      refine ⟨_, rfl, _, _, rfl, rfl, _, rfl, ite2 (fun c => ?_) (fun c => ?_)⟩
      · have c1 : e < 0 := of_decide_eq_true c
        have p0 := pn.mp c1
        have lim := chl_le i (pf es) 0
        refine ⟨_, rfl, .inl ⟨rfl, _, SqL.of gt3⟩, _, rfl, tp, _, _, rfl, rfl, gt3, by simp [vN]; exact sl_20' (by omega), ?_⟩
        refine ⟨_, rfl, .inl ⟨rfl, _, SqL.of ((upd_ne ndtp.symm).trans gd3)⟩, d, _, _, rfl, rfl, (upd_ne ndtp.symm).trans gd3, by simp [vI]; exact sl_20' (by omega), ?_⟩
        refine ⟨some (.int (i : Nat)), some (.int e), ds ++ [0], rfl, fun b o eb => ?_, ?_, fun j r er => ?_, ?_, ?_, by simp [dl]⟩
        · rw [upd_ne (ne_of_none eb nHd), upd_ne (ne_of_none eb nHtp)]
          exact s3 _ _ eb
        · rw [upd_ne ndD, upd_ne ntpD]
          exact gD3
        · have n1 : r ≠ d := fun z => rd (by rw [← z]; exact List.mem_of_getElem? er)
          have n2 : r ≠ tp := fun z => rtp (by rw [← z]; exact List.mem_of_getElem? er)
          rw [upd_ne n1, upd_ne n2, gr3 j r er, chl_succ, p0, if_neg (by omega), List.append_nil]
        · rw [upd_ne ndtp, upd_same, vN_snoc, chl_succ, p0, if_pos rfl]
        · rw [upd_same]
          simp [vI]
      · have c1 : ¬ e < 0 := fun w => c (decide_eq_true w)
        obtain ⟨j0, rfl, ji, pj⟩ := pp c1
        have j0l : j0 < rs.length := by omega
        have er0 := List.getElem?_eq_getElem j0l
        generalize rs[j0] = r0 at er0
        have em : (rs.map V.ref)[j0]? = some (.ref r0) := by rw [List.getElem?_map, er0]; rfl
        have g0 := gr3 j0 r0 er0
        have lim := chl_le i (pf es) (j0 + 1)
        have r0m : r0 ∈ rs := List.mem_of_getElem? er0
        have n0d : d ≠ r0 := fun z => rd (by rw [z]; exact r0m)
        have n0t : tp ≠ r0 := fun z => rtp (by rw [z]; exact r0m)
        have n0D : D ≠ r0 := fun z => nDr (by rw [z]; exact r0m)
        have nH0 := rn r0 r0m
        have gd4 := (upd_ne (o := .lst (vN (chl i (pf es) (j0 + 1)) ++ [V.int (i : Nat)])) n0d).trans gd3
        have dj : j0 < ds.length := by omega
        have ed := at_vI (List.getElem?_eq_getElem dj)
        refine ⟨_, rfl, _, rfl, D, _, _, _, rfl, rfl, SqL.of gD3, at_of rfl em, .inl ⟨rfl, _, SqL.of g0⟩, _, rfl, r0, _, _, rfl, rfl, g0, by simp [vN]; exact sl_20' (by omega), ?_⟩
        refine ⟨_, rfl, .inl ⟨rfl, _, SqL.of gd4⟩, _, rfl, _, rfl, d, _, _, _, rfl, rfl, SqL.of gd4, at_of rfl ed, _, _, rfl, rfl, d, _, _, rfl, rfl, gd4, by simp [vI]; exact sl_20' (by omega), ?_⟩
        refine ⟨some (.int (i : Nat)), some (.int (j0 : Int)), ds ++ [ds[j0] + 1], rfl, fun b o eb => ?_, ?_, fun j r er => ?_, ?_, ?_, by simp [dl]⟩
        · rw [upd_ne (ne_of_none eb nHd), upd_ne (ne_of_none eb nH0)]
          exact s3 _ _ eb
        · rw [upd_ne ndD, upd_ne n0D]
          exact gD3
        · have n1 : r ≠ d := fun z => rd (by rw [← z]; exact List.mem_of_getElem? er)
          rw [upd_ne n1]
          by_cases q : j = j0
          · subst q
            have : r0 = r := Option.some.inj (er0.symm.trans er)
            subst this
            rw [upd_same, vN_snoc, chl_succ, pj, if_pos rfl]
          · have n2 : r ≠ r0 := fun z => q (nd_ix nd er (by rw [z]; exact er0))
            rw [upd_ne n2, gr3 j r er, chl_succ, pj, if_neg (by omega), List.append_nil]
        · rw [upd_ne ndtp, upd_ne n0t, gt3, chl_succ, pj, if_neg (by omega), List.append_nil]
        · rw [upd_same]
          simp [vI]
    rintro σ H2 ⟨v5, v6, ds, rfl, s2, gD, gr, gt, gd, dl⟩
    rw [el] at gr gt
    refine ⟨(by show 1 ≤ sizeLine; decide), fun z nz => ?_⟩
    have s3 := s2.trans (same_new (o := .lst [V.int 0]) nz)
    refine ⟨_, rfl, a, _, rfl, .inl (SqL.of (s3 _ _ ha)), z, _, _, rfl, rfl, upd_same, by rw [el]; omega, by rw [el]; omega, ?_, fun b nb => ?_⟩
    · rw [el, Int.toNat_natCast]
      exact sl_20 (by simp; omega)
    have sb : Same H2 (upd (upd H2 z (.lst [V.int 0])) b (.lst (List.replicate (((vI es).length : Nat) : Int).toNat [V.int 0]).flatten)) := (same_new nz).trans (same_new nb)
    have nH2b : H2 b = none := (same_new (o := .lst [V.int 0]) nz).free nb
    have b0 : (upd (upd H2 z (.lst [V.int 0])) b (.lst (List.replicate (((vI es).length : Nat) : Int).toNat [V.int 0]).flatten)) b = some (.lst (vI ((List.range es.length).map fun x => bsum es.length (pf es) (fb es.length (pf es)) x (es.length - 0)))) := by
      rw [upd_same, el, Int.toNat_natCast]
      have e1 : ∀ n : Nat, (List.replicate n [V.int 0]).flatten = List.replicate n (V.int 0) := by
        intro n
        induction n with
        | zero => rfl
        | succ n ih => rw [List.replicate_succ, List.flatten_cons, ih, List.replicate_succ]; rfl
      rw [e1]
      congr 2
      unfold vI
      rw [List.map_map]
      apply List.ext_getElem?
      intro i
      rw [List.getElem?_map, List.getElem?_replicate]
      by_cases c : i < es.length
      · rw [if_pos c, List.getElem?_range c]
        show _ = some (V.int (bsum _ _ _ i (es.length - 0)))
        rw [Nat.sub_zero, bsum_end]
      · rw [if_neg c, List.getElem?_eq_none (by simpa using c)]
        rfl
    generalize (upd (upd H2 z (.lst [V.int 0])) b (.lst (List.replicate (((vI es).length : Nat) : Int).toNat [V.int 0]).flatten)) = H4 at sb b0 ⊢
    have hp := W.hp
    have nc := W.nc
    refine ⟨_, rfl, a, _, rfl, .inl (SqL.of (sb _ _ (s2 _ _ ha))), _, rfl, by omega, by omega, by rw [el]; omega, by rw [el]; omega,
      for_rangeC (lo := 0 + (((((vI es).length : Nat) : Int) - 0).toNat : Int) - 1) (c := -1) (n := ((((vI es).length : Nat) : Int) - 0).toNat) (fun t σ H' => ∃ v5 v6, σ = [some (.ref a), some (.ref D), some (.ref tp), some (.ref d), some (.ref b), v5, v6] ∧ Same H2 H' ∧ H' b = some (.lst (vI ((List.range es.length).map fun x => bsum es.length (pf es) (fb es.length (pf es)) x (es.length - t)))))
      ⟨_, _, rfl, sb, b0⟩ ?_ ?_⟩
    · rintro t σ H5 ht ⟨v5, v6, rfl, s5, hb⟩
      rw [el] at ht ⊢
      obtain ⟨k', hk'⟩ : ∃ k' : Nat, es.length - t = k' + 1 := ⟨es.length - t - 1, by omega⟩
      have kl : k' < es.length := by omega
      have eidx : 0 + ((((es.length : Nat) : Int) - 0).toNat : Int) - 1 + (t : Int) * -1 = (k' : Int) := by omega
      have hk2 : es.length - (t + 1) = k' := by omega
      rw [eidx]
      rw [hk'] at hb
      have he := List.getElem?_eq_getElem kl
      generalize es[k'] = e at he
      obtain ⟨pn, pp⟩ := pf_neg' W he
      have ha5 := s5 _ _ (s2 _ _ ha)
      refine ⟨_, rfl, _, rfl, a, _, _, _, rfl, rfl, SqL.of ha5, at_of rfl (at_vI he), _, _, rfl, rfl, _, rfl, ite2 (fun c => ?_) (fun c => ?_)⟩
      · have c1 : 0 ≤ e := of_decide_eq_true c
        obtain ⟨j0, rfl, ji, pj⟩ := pp (by omega)
        have jl : j0 < es.length := by omega
        have hat : ∀ x, x < es.length → (vI ((List.range es.length).map fun x => bsum es.length (pf es) (fb es.length (pf es)) x (k' + 1)))[x]? = some (.int (bsum es.length (pf es) (fb es.length (pf es)) x (k' + 1))) := fun x hx => at_vI (by rw [List.getElem?_map, List.getElem?_range hx]; rfl)
        have hix : ixN (vI ((List.range es.length).map fun x => bsum es.length (pf es) (fb es.length (pf es)) x (k' + 1))).length (j0 : Int) = some j0 := by
          unfold ixN
          rw [if_pos (by omega), if_pos (by simp [vI]; omega), Int.toNat_natCast]
        refine ⟨_, rfl, _, rfl, _, rfl, a, _, _, _, rfl, rfl, SqL.of ha5, at_of rfl (at_vI he), b, _, _, _, rfl, rfl, SqL.of hb, at_of rfl (hat j0 jl), ?_⟩
        refine ⟨_, rfl, _, rfl, b, _, _, _, rfl, rfl, SqL.of hb, at_of rfl (hat k' kl), _, _, rfl, rfl, _, _, rfl, rfl, ?_⟩
        refine ⟨_, rfl, _, rfl, _, rfl, a, _, _, _, rfl, rfl, SqL.of ha5, at_of rfl (at_vI he), b, _, _, j0, rfl, rfl, hb, hix, ?_⟩
        refine ⟨some (.int (k' : Int)), v6, rfl, fun x o ex => ?_, ?_⟩
        · rw [upd_ne (ne_of_none ex nH2b)]
          exact s5 _ _ ex
        · rw [upd_same, hk2]
          congr 2
          unfold vI
          rw [List.map_map, List.map_map]
          refine set_range _ _ _ _ _ ?_ ?_
          · show V.int (bsum es.length (pf es) (fb es.length (pf es)) j0 k') = V.int (bsum es.length (pf es) (fb es.length (pf es)) j0 (k' + 1) + bsum es.length (pf es) (fb es.length (pf es)) k' (k' + 1) + 1)
            rw [bsum_step (i := k') kl, if_pos pj, bsum_zero hp nc kl (Nat.le_refl _)]
            congr 1
            omega
          · intro x hx
            show V.int (bsum es.length (pf es) (fb es.length (pf es)) x k') = V.int (bsum es.length (pf es) (fb es.length (pf es)) x (k' + 1))
            rw [bsum_step (i := k') kl, pj, if_neg (by omega)]
            congr 1
            omega
      · have c1 : ¬ 0 ≤ e := fun w => c (decide_eq_true w)
        have p0 := pn.mp (by omega)
        refine ⟨some (.int (k' : Int)), v6, rfl, s5, ?_⟩
        rw [hb, hk2]
        congr 3
        apply List.map_congr_left
        intro x _
        rw [bsum_step (i := k') kl, p0, if_neg (by omega)]
        omega
    · rintro σ H5 ⟨v5, v6, rfl, s5, hb⟩
      rw [el] at hb
      refine ⟨_, rfl, _, rfl, _, rfl, _, rfl, (by show 4 ≤ sizeLine; decide), fun t nt => ?_⟩
      have sn := same_new (o := .tup [V.ref D, V.ref tp, V.ref d, V.ref b]) nt
      have s52 := s5.trans sn
      refine k _ t ((s2.trans s5).trans sn) ⟨D, tp, d, b, rs, upd_same, s52 _ _ gD, rl, fun j r e => s52 _ _ (gr j r e), s52 _ _ gt, ?_⟩
      rw [sn _ _ hb]
      congr 3
      apply List.map_congr_left
      intro x hx
      have xl := List.mem_range.mp hx
      rw [show es.length - ((((es.length : Nat) : Int) - 0).toNat) = 0 by omega, bsum_zero hp nc xl (by omega)]
end
end TW
/-! U15: walks (joined by mk.py). -/
namespace TW
open PySem PySem.Spec PyProof.Rows L2
section
variable {P : Program} {w : World} {K : PySem.W.Frag} {mg : Str → Option Value} {base : Heap}

theorem sc_LawSome : FnScope ["_law_many", "_law_number", "_law_size", "_law_k"] ["_law_many", "_law_number"] (defScope sLawSome) := ⟨rfl, rfl, rfl, by decide +kernel, rfl, by decide +kernel, by decide +kernel⟩
theorem ok_LawSome (T : Txt K mg)  : Cl P w K mg base 1 "_law_some" spLawSome := by
  refine cl_of T.g_law_some (fn_ok (N := ["_law_many", "_law_number", "_law_size", "_law_k"]) T.f_LawSome sc_LawSome (fun vs H Q E h => ?_) (fun _ _ _ _ _ _ us hl => match us, hl with | [_, _], _ => rfl) (fun cdv A outer s H vs Q E hr h => ?_))
  · obtain ⟨m, r, rfl, _⟩ := h
    rfl
  · obtain ⟨m, r, rfl, hm, hm2, k⟩ := h
    refine ⟨_, (pss_cons (ps_set (i := 2) sc_LawSome.nd rfl (Or.inl rfl) (pe_callB (call_min2 rfl) (by rfl) T.z_min (by decide +kernel) (pa_cons (pv 0) (pa_cons (pe_ix ix_list (pe_lst (pa_cons pe_int (pa_cons pe_int pa_nil))) (pe_callTy call_int1 (by rfl) T.z_int (by decide +kernel) (pa_cons (pe_cmpR op_gt (pv 0) pe_int (nomark _)) pa_nil)) (fun _ _ => rfl)) pa_nil))))
      (pss_one (ps_ret (pe_lc (own := [("_law_k", 3)]) (g := gName 3) (by rfl) sc_LawSome.nd (pi_range1 (by rfl) T.z_range (pa_cons (pv 2) pa_nil)) (blkOk_by (own := [("_law_k", 3)]) (N := ["_law_many", "_law_number", "_law_size", "_law_k"]) (sc := defScope sLawSome) (by decide +kernel)) (fun _ _ _ _ _ => pg_name (i := 3) sc_LawSome.nd rfl (Or.inl rfl)) (fun _ _ _ _ _ => pts_nil) (fun _ _ _ _ _ => (pe_op op_modN (pe_op op_add (pv 1) (pv 3)) (pv 0))))))), ?_⟩
    obtain ⟨s0, hs0, hat⟩ : ∃ s0 : Nat, s0 ≤ 8 ∧ atI [V.int 8, V.int 2] (if decide ((60 : Int) < (m : Int)) = true then 1 else 0) = some (.int (s0 : Nat)) := by
      by_cases c : (60 : Int) < (m : Int)
      · exact ⟨2, by decide, by rw [if_pos (decide_eq_true c)]; exact atI_nat (j := 1) rfl⟩
      · exact ⟨8, by decide, by rw [if_neg (by simpa using c)]; exact atI_nat (j := 0) rfl⟩
    refine ⟨_, rfl, (by show 2 ≤ sizeLine; decide), fun q nq => ⟨_, rfl, _, _, rfl, rfl, .inr ⟨_, rfl, q, _, _, _, rfl, rfl, SqL.of upd_same, hat, _, _, rfl, ?_⟩⟩⟩
    have s1 : Same H (upd H q (.lst [V.int 8, V.int 2])) := same_new nq
    generalize (upd H q (.lst [V.int 8, V.int 2])) = H1 at s1 ⊢
    obtain ⟨z, hz, hz2⟩ : ∃ z : Nat, (if (s0 : Int) < (m : Int) then (s0 : Int) else (m : Int)) = (z : Int) ∧ z ≤ 8 := by
      split
      · exact ⟨s0, rfl, hs0⟩
      · exact ⟨m, rfl, by omega⟩
    dsimp only
    rw [hz]
    refine ⟨_, rfl, _, rfl, by omega, by omega, fun D nD => lc_range (lo := 0) (n := ((z : Nat) : Int).toNat) (fun i H' => Same H1 H' ∧ ∃ ks : List Nat, H' D = some (.lst (vN ks)) ∧ ks.length = i ∧ ∀ k ∈ ks, k < m)
      ⟨same_new nD, [], upd_same, rfl, fun k hk => by simp at hk⟩ ?_ ?_⟩
    · rintro i H2 hi ⟨s2, ks, hD, kl, km⟩
      have b1 : 0 ≤ Int.fmod (r + (0 + (i : Int))) (m : Int) := by rw [Int.fmod_eq_emod_of_nonneg _ (by omega)]; exact Int.emod_nonneg _ (by omega)
      have b2 : Int.fmod (r + (0 + (i : Int))) (m : Int) < (m : Int) := by rw [Int.fmod_eq_emod_of_nonneg _ (by omega)]; exact Int.emod_lt_of_pos _ (by omega)
      refine ⟨rfl, tyes ⟨_, rfl, _, rfl, _, _, rfl, rfl, _, rfl, _, _, rfl, rfl, (by show (m : Int) ≠ 0; omega), _, hD, by simp [vN]; exact sl_20' (by omega), fun b o eb => ?_, ks ++ [(Int.fmod (r + (0 + (i : Int))) (m : Int)).toNat], ?_, by simp [kl], fun k hk => ?_⟩⟩
      · rw [upd_ne (ne_of_none eb nD)]
        exact s2 _ _ eb
      · rw [upd_same, ← vN_snoc, show (((Int.fmod (r + (0 + (i : Int))) (m : Int)).toNat : Nat) : Int) = Int.fmod (r + (0 + (i : Int))) (m : Int) by omega]
      · rcases List.mem_append.mp hk with h | h
        · exact km k h
        · rw [List.mem_singleton] at h
          omega
    · rintro H2 ⟨s2, ks, hD, kl, km⟩
      exact k _ D ks (s1.trans s2) hD km (by omega)
theorem sc_LawBegins : FnScope ["_law_plain_here", "_law_found", "_law_children", "_law_inner", "_law_tops", "_law_deep", "_law_below"] ["_law_plain_here"] (defScope sLawBegins) := ⟨rfl, rfl, rfl, by decide +kernel, rfl, by decide +kernel, by decide +kernel⟩
theorem ok_LawBegins (T : Txt K mg)  : Cl P w K mg base 1 "_law_begins" spLawBegins := by
  refine cl_of T.g_law_begins (fn_ok (N := ["_law_plain_here", "_law_found", "_law_children", "_law_inner", "_law_tops", "_law_deep", "_law_below"]) T.f_LawBegins sc_LawBegins (fun vs H Q E h => ?_) (fun _ _ _ _ _ _ us hl => match us, hl with | [_], _ => rfl) (fun cdv A outer s H vs Q E hr h => ?_))
  · obtain ⟨t, n, p, rfl, _⟩ := h
    rfl
  · obtain ⟨t, n, p, rfl, ⟨ai, atp, ad, ab, rs, h1, h2, h3, h4, h5, h6⟩, hn, k⟩ := h
    refine ⟨_, (pss_cons (ps_asg (pv 0) (pg_tup rfl (pgs_cons (pg_name (i := 3) sc_LawBegins.nd rfl (Or.inl rfl)) (pgs_cons (pg_name (i := 4) sc_LawBegins.nd rfl (Or.inl rfl)) (pgs_cons (pg_name (i := 5) sc_LawBegins.nd rfl (Or.inl rfl)) (pgs_cons (pg_name (i := 6) sc_LawBegins.nd rfl (Or.inl rfl)) pgs_nil))))))
      (pss_cons (ps_set (i := 1) sc_LawBegins.nd rfl (Or.inl rfl) (pe_lst (pa_cons (pe_op op_add (pe_callB call_len_seq (by rfl) T.z_len PySem.boot_len (pa_cons (pv 4) pa_nil)) pe_int) pa_nil)))
      (pss_cons (ps_for PassesOwn.never rfl (pi_list (pv 3)) (pg_name (i := 2) sc_LawBegins.nd rfl (Or.inl rfl))
      (pss_one (ps_expr (pe_bm PySem.F.plainAttrs_list PySem.F.slot_list_append PySem.F.type_list_append mt_append (pv 1) (pa_cons (pe_op op_add (pe_op op_add (pe_ix ix_list (pv 1) (pe_un un_neg pe_int) (fun _ _ => rfl)) (pe_callB call_len_seq (by rfl) T.z_len PySem.boot_len (pa_cons (pv 2) pa_nil))) pe_int) pa_nil)))))
      (pss_one (ps_ret (pv 1)))))), ?_⟩
    have el : (vN (chl n p 0)).length = cg n p 0 := by rw [← chl_len]; simp [vN]
    have el2 : ∀ j, (vN (chl n p (j + 1))).length = cg n p (j + 1) := fun j => by rw [← chl_len]; simp [vN]
    refine ⟨_, rfl, t, _, rfl, SqT.of h1, rfl, _, _, rfl, _, _, rfl, _, _, rfl, _, _, rfl, rfl, ?_⟩
    refine ⟨_, rfl, atp, _, rfl, .inl (SqL.of h5), _, _, rfl, rfl, (by show 1 ≤ sizeLine; decide), fun l nl => ?_⟩
    have s1 : Same H (upd H l (.lst [V.int (((vN (chl n p 0)).length : Nat) + 1)])) := same_new nl
    refine ⟨_, rfl, ai, rfl, ⟨_, SqL.of (s1 _ _ h2)⟩, for_list (K := K) (a := ai) (xs := rs.map V.ref) (fun i σ H' => ∃ v2, σ = [some (.ref t), some (.ref l), v2, some (.ref ai), some (.ref atp), some (.ref ad), some (.ref ab)] ∧ Same H H' ∧ H' l = some (.lst (vN ((List.range (i + 1)).map fun j => low n p (j + 1)))))
      ⟨_, rfl, s1, ?_⟩ (fun i σ H' _ ⟨_, _, s, _⟩ => SqL.of (s _ _ h2)) ?_ ?_⟩
    · rw [upd_same, el]
      have e1 : low n p 1 = cg n p 0 + 1 := by rw [low_succ, low_zero]; omega
      show _ = some (HO.lst (vN [low n p 1]))
      rw [e1]
      rfl
    · rintro i x σ H1 hx ⟨v2, rfl, s2, hl⟩
      rw [List.getElem?_map] at hx
      cases er : rs[i]? with
      | none =>
        rw [er] at hx
        cases hx
      | some r =>
        rw [er] at hx
        have ex : V.ref r = x := Option.some.inj hx
        subst ex
        have ilt : i < rs.length := (List.getElem?_eq_some_iff.mp er).1
        have hlast : vN ((List.range (i + 1)).map fun j => low n p (j + 1)) = vN ((List.range i).map fun j => low n p (j + 1)) ++ [.int (low n p (i + 1) : Nat)] := by
          simp [vN, List.range_succ]
        refine ⟨_, rfl, .inl ⟨rfl, _, SqL.of hl⟩, _, rfl, 1, rfl, l, _, -1, _, rfl, rfl, SqL.of hl, by rw [hlast]; exact atI_last _ _, _, rfl, r, _, rfl, .inl (SqL.of (s2 _ _ (h4 i r er))), _, _, rfl, rfl, _, _, rfl, rfl, l, _, _, rfl, rfl, hl, by simp [vN]; exact sl_20' (by omega), ?_⟩
        refine ⟨some (.ref r), rfl, fun b o eb => ?_, ?_⟩
        · rw [upd_ne (ne_of_none eb nl)]
          exact s2 _ _ eb
        · rw [upd_same, el2]
          have e1 : (low n p (i + 1) : Int) + (cg n p (i + 1) : Int) + 1 = ((low n p (i + 1 + 1) : Nat) : Int) := by rw [low_succ n p (i + 1)]; omega
          show some (HO.lst (_ ++ [V.int ((low n p (i + 1) : Int) + (cg n p (i + 1) : Int) + 1)])) = _
          rw [e1, vN_snoc, List.range_succ (n := i + 1), List.map_append]
          rfl
    · rintro σ H1 ⟨v2, rfl, s2, hl⟩
      rw [List.length_map, h3] at hl
      exact ⟨_, rfl, k _ l s2 hl⟩
theorem sc_LawRight : FnScope ["_law_wood_here", "_law_elders", "_law_plain_here", "_law_begins_here", "_law_k", "_law_beside", "_law_behind", "_law_found", "_law_inner", "_law_tops", "_law_deep", "_law_below"] ["_law_wood_here", "_law_elders", "_law_plain_here", "_law_begins_here", "_law_k"] (defScope sLawRight) := ⟨rfl, rfl, rfl, by decide +kernel, rfl, by decide +kernel, by decide +kernel⟩
theorem ok_LawRight (T : Txt K mg) (cLawIs : Cl P w K mg base 1 "_law_is" spLawIs) (mWBehind : Mt P w K mg base 10 (cW K) "behind" (spBehind K)) (mWChildPlace : Mt P w K mg base 11 (cW K) "child_place" (spChildPlace K)) (mWStretch : Mt P w K mg base 9 (cW K) "stretch" (spStretch K)) : Cl P w K mg base 12 "_law_right" (spLawRight K) := by
  refine cl_of T.g_law_right (fn_ok (N := ["_law_wood_here", "_law_elders", "_law_plain_here", "_law_begins_here", "_law_k", "_law_beside", "_law_behind", "_law_found", "_law_inner", "_law_tops", "_law_deep", "_law_below"]) T.f_LawRight sc_LawRight (fun vs H Q E h => ?_) (fun _ _ _ _ _ _ us hl => match us, hl with | [_, _, _, _, _], _ => rfl) (fun cdv A outer s H vs Q E hr h => ?_))
  · obtain ⟨a, e, t, l, es, w', k', rfl, _⟩ := h
    rfl
  · obtain ⟨a, e, t, l, es, w', k', rfl, Wa, he, W, hl, P0, hb, hk, k⟩ := h
    refine ⟨_, (pss_cons (ps_asg (pv 2) (pg_tup rfl (pgs_cons (pg_name (i := 8) sc_LawRight.nd rfl (Or.inl rfl)) (pgs_cons (pg_name (i := 9) sc_LawRight.nd rfl (Or.inl rfl)) (pgs_cons (pg_name (i := 10) sc_LawRight.nd rfl (Or.inl rfl)) (pgs_cons (pg_name (i := 11) sc_LawRight.nd rfl (Or.inl rfl)) pgs_nil))))))
      (pss_cons (ps_set (i := 5) sc_LawRight.nd rfl (Or.inl rfl) (pv 9))
      (C8.pss_cut (ps_if (pt_cmpR op_ge (pe_ix ix_list (pv 1) (pv 4) (fun _ _ => rfl)) pe_int (nomark _))
      (pss_one (ps_set (i := 5) sc_LawRight.nd rfl (Or.inl rfl) (pe_ix ix_list (pv 8) (pe_ix ix_list (pv 1) (pv 4) (fun _ _ => rfl)) (fun _ _ => rfl))))
      pss_nil)
      (pss_cons (ps_set (i := 6) sc_LawRight.nd rfl (Or.inl rfl) (pe_op op_add (pe_op op_add (pv 4) pe_int) (pe_ix ix_list (pv 11) (pv 4) (fun _ _ => rfl))))
      (C8.pss_cut (ps_if (PW.pt (pw_or (pt_not (pt_val (pe_c cLawIs hr (pa_cons (pe_m mWChildPlace hr (pv 0) (pa_cons (pv 4) pa_nil)) (pa_cons (pe_bm PySem.F.plainAttrs_list PySem.F.slot_list_index PySem.F.type_list_index mt_index (pv 5) (pa_cons (pv 4) pa_nil)) pa_nil))))) (pw_or1 (pt_not (pt_val (pe_c cLawIs hr (pa_cons (pe_m mWBehind hr (pv 0) (pa_cons (pv 4) pa_nil)) (pa_cons (pv 6) pa_nil))))))))
      (pss_one (ps_ret pe_bl))
      pss_nil)
      (pss_cons (ps_set (i := 7) sc_LawRight.nd rfl (Or.inl rfl) (pe_m mWStretch hr (pv 0) (pa_cons (pv 4) pa_nil)))
      (C8.pss_cut (ps_if (PW.pt (pw_or (pt_not (pt_val (pe_isi (T := "tuple") T.z_isinstance T.z_tuple (pv 7)))) (pw_or1 (pt_cmpR op_ne (pe_callB call_len_seq (by rfl) T.z_len PySem.boot_len (pa_cons (pv 7) pa_nil)) pe_int (nomark _)))))
      (pss_one (ps_ret pe_bl))
      pss_nil)
      (pss_one (ps_ret (pe_and (pe_c cLawIs hr (pa_cons (pe_ix ix_tup (pv 7) pe_int (fun _ _ => rfl)) (pa_cons (pe_ix ix_list (pv 3) (pv 4) (fun _ _ => rfl)) pa_nil))) (pe_one (pe_c cLawIs hr (pa_cons (pe_ix ix_tup (pv 7) pe_int (fun _ _ => rfl)) (pa_cons (pe_ix ix_list (pv 3) (pv 6) (fun _ _ => rfl)) pa_nil)))))))))))))), ?_⟩
    obtain ⟨dx, c, q, o1, C, Pa⟩ := id Wa
    obtain ⟨ai, atp, ad, ab, rs, h1, h2, h3, h4, h5, h6⟩ := id P0
    have Wp : WdP es.length (pf es) := ⟨W.hp, W.nc, hl⟩
    have B := bh_is (p := pf es) hk
    have ek := List.getElem?_eq_getElem hk
    obtain ⟨pn, pp⟩ := pf_neg' W ek
    refine ⟨_, rfl, t, _, rfl, SqT.of h1, rfl, _, _, rfl, _, _, rfl, _, _, rfl, _, _, rfl, rfl, ?_⟩
    refine ⟨_, rfl, ?_⟩
    refine ⟨fun σ H1 => H1 = H ∧ ∃ bs, σ = [some (.ref a), some (.ref e), some (.ref t), some (.ref l), some (.int (k' : Nat)), some (.ref bs), none, none, some (.ref ai), some (.ref atp), some (.ref ad), some (.ref ab)] ∧ H bs = some (.lst (vN (chl es.length (pf es) (pf es k')))), ?_, ?_⟩
    · refine ⟨_, rfl, _, rfl, e, _, _, _, rfl, rfl, SqL.of he, at_of rfl (at_vI ek), _, _, rfl, rfl, _, rfl, ite2 (fun z => ?_) (fun z => ?_)⟩
      · have z1 : 0 ≤ es[k'] := of_decide_eq_true z
        obtain ⟨j0, ej, ji, pj⟩ := pp (by omega)
        have jl : j0 < rs.length := by omega
        have er := List.getElem?_eq_getElem jl
        have em : (rs.map V.ref)[j0]? = some (.ref rs[j0]) := by rw [List.getElem?_map, er]; rfl
        refine ⟨_, rfl, _, rfl, _, rfl, e, _, _, _, rfl, rfl, SqL.of he, at_of rfl (at_vI ek), ai, _, _, _, rfl, rfl, SqL.of h2, at_of ej em, rfl, rs[j0], rfl, ?_⟩
        rw [pj]
        exact h4 j0 _ er
      · have z1 : ¬ 0 ≤ es[k'] := fun v => z (decide_eq_true v)
        refine ⟨rfl, atp, rfl, ?_⟩
        rw [pn.mp (by omega)]
        exact h5
    rintro σ H1 ⟨rfl, bs, rfl, hbs⟩
    have hbel : (vI ((List.range es.length).map fun j => fb es.length (pf es) j - 1))[k']? = some (.int (fb es.length (pf es) k' - 1)) := at_vI (by rw [List.getElem?_map, List.getElem?_range hk]; rfl)
    refine ⟨_, rfl, _, _, rfl, rfl, _, rfl, _, rfl, ab, _, _, _, rfl, rfl, SqL.of h6, at_of rfl hbel, _, _, rfl, rfl, ?_⟩
    dsimp only
    rw [show (k' : Int) + 1 + (fb es.length (pf es) k' - 1) = ((bh es.length (pf es) k' : Nat) : Int) by unfold fb; omega]
    generalize bh es.length (pf es) k' = b at B ⊢
    have ble := B.le
    have hall : (vN (chl es.length (pf es) (pf es k'))).all flatV = true := by
      rw [List.all_eq_true]
      intro x hx
      unfold vN at hx
      obtain ⟨y, _, rfl⟩ := List.mem_map.mp hx
      rfl
    have hcat : (vN (chl es.length (pf es) (pf es k')))[ct (pf es) k']? = some (.int (k' : Nat)) := by
      unfold vN
      rw [List.getElem?_map, chl_at hk]
      rfl
    refine ⟨fun σ H2 => Same H1 H2 ∧ σ = [some (.ref a), some (.ref e), some (.ref t), some (.ref l), some (.int (k' : Nat)), some (.ref bs), some (.int (b : Nat)), none, some (.ref ai), some (.ref atp), some (.ref ad), some (.ref ab)], ?_, ?_⟩
    · refine ⟨_, rfl, a, dx, _, rfl, o1, wF_no (by decide +kernel) (by decide +kernel) (by decide +kernel) (by decide +kernel), _, rfl, a, es.length, pf es, k', rfl, Wa, Wp, hk, fun H2 s2 => ?_⟩
      refine ⟨_, rfl, .inl ⟨rfl, _, SqL.of (s2 _ _ hbs)⟩, _, rfl, bs, _, _, ct (pf es) k', _, rfl, rfl, SqL.of (s2 _ _ hbs), rfl, hall, hcat, by show ((k' : Int) == (k' : Int)) = true; simp, ?_, _, rfl, true, rfl, iteF ?_⟩
      · intro m z hm hz
        unfold vN at hz
        rw [List.getElem?_map] at hz
        cases ej : (chl es.length (pf es) (pf es k'))[m]? with
        | none =>
          rw [ej] at hz
          cases hz
        | some j =>
          rw [ej] at hz
          have ez : V.int (j : Nat) = z := Option.some.inj hz
          subst ez
          have := chl_ahead hk hm ej
          show ((j : Int) == (k' : Int)) = false
          rw [beq_eq_false_iff_ne]
          omega
      · refine ⟨_, rfl, a, dx, _, rfl, s2 _ _ o1, wF_no (by decide +kernel) (by decide +kernel) (by decide +kernel) (by decide +kernel), _, rfl, a, es.length, pf es, k', b, rfl, Wa.mono s2, Wp, hk, B, fun H3 s3 => ⟨_, rfl, _, rfl, true, rfl, iteF ⟨s2.trans s3, rfl⟩⟩⟩
    rintro σ H2 ⟨s2, rfl⟩
    refine ⟨_, rfl, a, dx, _, rfl, s2 _ _ o1, wF_no (by decide +kernel) (by decide +kernel) (by decide +kernel) (by decide +kernel), _, rfl, a, es.length, pf es, k', b, rfl, Wa.mono s2, Wp, hk, B, fun H3 u s3 hu => ?_⟩
    have s23 := s2.trans s3
    refine ⟨fun σ H4 => H4 = H3 ∧ σ = [some (.ref a), some (.ref e), some (.ref t), some (.ref l), some (.int (k' : Nat)), some (.ref bs), some (.int (b : Nat)), some (.ref u), some (.ref ai), some (.ref atp), some (.ref ad), some (.ref ab)], ?_, ?_⟩
    · exact ⟨_, rfl, isi_tup_tuple hu ⟨true, rfl, iteF ⟨_, rfl, u, _, rfl, .inr (SqT.of hu), rfl, _, rfl, iteNS rfl ⟨rfl, rfl⟩⟩⟩⟩
    rintro σ H4 ⟨rfl, rfl⟩
    have hbg : ∀ j, j ≤ es.length → (vN (begs es.length (pf es)))[j]? = some (.int (low es.length (pf es) (j + 1) : Nat)) := by
      intro j hj
      unfold vN begs
      rw [List.getElem?_map, List.getElem?_map, List.getElem?_range (by omega)]
      rfl
    refine ⟨_, rfl, u, _, _, _, rfl, rfl, SqT.of hu, atI_nat (j := 0) rfl, _, rfl, _, rfl, l, _, _, _, rfl, rfl, SqL.of (s23 _ _ hb), at_of rfl (hbg k' (by omega)), _, rfl, true, rfl, iteT ?_⟩
    exact ⟨_, rfl, u, _, _, _, rfl, rfl, SqT.of hu, atI_nat (j := 1) rfl, _, rfl, _, rfl, l, _, _, _, rfl, rfl, SqL.of (s23 _ _ hb), at_of rfl (hbg b ble), _, rfl, k _ s23⟩
end
end TW
/-! U16: walks (joined by mk.py). -/
namespace TW
open PySem PySem.Spec PyProof.Rows L2
section
variable {P : Program} {w : World} {K : PySem.W.Frag} {mg : Str → Option Value} {base : Heap}

theorem WoodAt.butL {K : PySem.W.Frag} {H H' : Hp} {a x : Addr} {xs : List V} {n : Nat} {p : Nat → Nat} (h : WoodAt K H a n p) (s : But x H H') (hx : H x = some (.lst xs)) : WoodAt K H' a n p := by
  have M : ∀ b o, H b = some o → (∀ ys, o ≠ .lst ys) → H' b = some o := fun b o e no => s b o e fun z => no xs (by rw [z, hx] at e; exact (Option.some.inj e).symm)
  have cnt : ∀ {c : Addr} {bs : List Bool}, CntAt K H c bs → CntAt K H' c bs := fun ⟨dx, t, u, h1, h2, h3⟩ => ⟨dx, t, u, M _ _ h1 (fun _ z => by cases z), M _ _ h2 (fun _ z => by cases z), M _ _ h3 (fun _ z => by cases z)⟩
  obtain ⟨dx, c, q, h1, h2, dxq, b, t, c2, l, g1, ⟨⟨dxb, g2⟩, g3⟩, g4, rs, g5, g6, g7⟩ := h
  refine ⟨dx, c, q, M _ _ h1 (fun _ z => by cases z), cnt h2, dxq, b, t, c2, l, M _ _ g1 (fun _ z => by cases z), ⟨⟨dxb, M _ _ g2 (fun _ z => by cases z)⟩, M _ _ g3 (fun _ z => by cases z)⟩, cnt g4, rs, M _ _ g5 (fun _ z => by cases z), g6, fun i r e => ?_⟩
  obtain ⟨b', lo, hi, g8, g9⟩ := g7 i r e
  exact ⟨b', lo, hi, M _ _ g8 (fun _ z => by cases z), g9⟩
theorem sc_Law : FnScope ["_law_script", "_law_elders", "_law_many", "_law_plain_here", "_law_begins_here", "_law_handed", "_law_wood_here", "_law_some_here", "_law_k", "_law_other", "_law_found"] ["_law_script"] (defScope sLaw) := ⟨rfl, rfl, rfl, by decide +kernel, rfl, by decide +kernel, by decide +kernel⟩
theorem ok_Law (T : Txt K mg) (cLawBegins : Cl P w K mg base 1 "_law_begins" spLawBegins) (cLawCellAt : Cl P w K mg base 1 "_law_cell_at" (spLawCellAt K)) (cLawPlain : Cl P w K mg base 1 "_law_plain" spLawPlain) (cLawRight : Cl P w K mg base 12 "_law_right" (spLawRight K)) (cLawSome : Cl P w K mg base 1 "_law_some" spLawSome) (cLawTwice : Cl P w K mg base 1 "_law_twice" spLawTwice) (cLawWood : Cl P w K mg base 3 "_law_wood" (spLawWood K)) (kW : Mkk P w K mg base 6 "Counted" (cW K) (spWInit K)) (mWLiesBeneath : Mt P w K mg base 11 (cW K) "lies_beneath" (spLies K)) (mWRow : Mt P w K mg base 1 (cW K) "row" (spRowW K)) : ∃ fd, FnOk P w K mg base CX0 13 (He.ga K "law") fd ["_law_script"] (spLaw K) ∧ PySem.W.keepIn K (.ref (He.ga K "law")) = true ∧ Binds K fd ["_law_script"] [] ∧ FunD K "law" "law" (defArgs sLaw) (defBody sLaw) (defScope sLaw) [] [] (He.ga K "law") fd := by
  refine fn_ok (N := ["_law_script", "_law_elders", "_law_many", "_law_plain_here", "_law_begins_here", "_law_handed", "_law_wood_here", "_law_some_here", "_law_k", "_law_other", "_law_found"]) T.f_Law sc_Law (fun vs H Q E h => ?_) (fun _ _ _ _ _ _ us hl => match us, hl with | [_], _ => rfl) (fun cdv A outer s H vs Q E hr h => ?_)
  · obtain ⟨a, ns, rfl, _⟩ := h
    rfl
  · obtain ⟨a, ns, rfl, hS, hlen, k⟩ := h
    refine ⟨_, (pss_cons (ps_set (i := 1) sc_Law.nd rfl (Or.inl rfl) (pe_c cLawWood hr (pa_cons (pv 0) (pa_cons pe_int (pa_cons pe_int pa_nil)))))
      (pss_cons (ps_set (i := 2) sc_Law.nd rfl (Or.inl rfl) (pe_callB call_len_seq (by rfl) T.z_len PySem.boot_len (pa_cons (pv 1) pa_nil)))
      (pss_cons (ps_set (i := 3) sc_Law.nd rfl (Or.inl rfl) (pe_c cLawPlain hr (pa_cons (pv 1) pa_nil)))
      (pss_cons (ps_set (i := 4) sc_Law.nd rfl (Or.inl rfl) (pe_c cLawBegins hr (pa_cons (pv 3) pa_nil)))
      (pss_cons (ps_set (i := 5) sc_Law.nd rfl (Or.inl rfl) (pe_callTy call_list_of (by rfl) T.z_list (by decide +kernel) (pa_cons (pv 1) pa_nil)))
      (pss_cons (ps_set (i := 6) sc_Law.nd rfl (Or.inl rfl) (pe_mk kW hr (pa_cons (pv 5) pa_nil)))
      (pss_cons (ps_expr (pe_bm0 PySem.F.plainAttrs_list PySem.F.slot_list_clear PySem.F.type_list_clear mt_clear (pv 5)))
      (pss_cons (ps_if (pt_cmpR op_ne (pe_callB call_len_str (by rfl) T.z_len PySem.boot_len (pa_cons (pe_m0' mWRow hr (pv 6)) pa_nil)) (pe_ix ix_list (pv 4) (pe_un un_neg pe_int) (fun _ _ => rfl)) (nomark _))
      (pss_one (ps_ret pe_bl))
      pss_nil)
      (pss_cons (ps_if (pt_cmpR op_eq (pv 2) pe_int (nomark _))
      (pss_one (ps_ret pe_bl))
      pss_nil)
      (pss_cons (ps_set (i := 7) sc_Law.nd rfl (Or.inl rfl) (pe_c cLawSome hr (pa_cons (pv 2) (pa_cons (pe_c cLawTwice hr (pa_cons (pe_c cLawCellAt hr (pa_cons (pv 0) (pa_cons pe_int pa_nil))) (pa_cons pe_int pa_nil))) pa_nil))))
      (pss_cons (ps_for PassesOwn.never rfl (pi_list (pv 7)) (pg_name (i := 8) sc_Law.nd rfl (Or.inl rfl))
      (pss_cons (ps_if (pt_not (pt_val (pe_c cLawRight hr (pa_cons (pv 6) (pa_cons (pv 1) (pa_cons (pv 3) (pa_cons (pv 4) (pa_cons (pv 8) pa_nil))))))))
        (pss_one (ps_ret pe_bl))
        pss_nil)
        (pss_one (ps_for PassesOwn.never rfl (pi_list (pe_op op_cat (pv 7) (pe_lst (pa_cons (pe_callB (call_max2 rfl) (by rfl) T.z_max (by decide +kernel) (pa_cons pe_int (pa_cons (pe_ix ix_list (pv 1) (pv 8) (fun _ _ => rfl)) pa_nil))) (pa_cons pe_int (pa_cons (pe_op op_sub (pv 2) pe_int) pa_nil)))))) (pg_name (i := 9) sc_Law.nd rfl (Or.inl rfl))
        (pss_cons (ps_set (i := 10) sc_Law.nd rfl (Or.inl rfl) (pe_m mWLiesBeneath hr (pv 6) (pa_cons (pv 8) (pa_cons (pv 9) pa_nil))))
          (pss_one (ps_if (PW.pt (pw_or (pt_not (pt_val (pe_isi (T := "bool") T.z_isinstance T.z_bool (pv 10)))) (pw_or1 (pt_cmpR op_ne (pv 10) (pe_and (pe_cmpR op_le (pv 9) (pv 8) (nomark _)) (pe_one (pe_cmpR op_le (pv 8) (pe_op op_add (pv 9) (pe_ix ix_list (pe_ix ix_tup (pv 3) pe_int (fun _ _ => rfl)) (pv 9) (fun _ _ => rfl))) (nomark _)))) (nomark _)))))
          (pss_one (ps_ret pe_bl))
          pss_nil)))))))
      (pss_one (ps_ret pe_bl))))))))))))), ?_⟩
    refine ⟨_, rfl, a, ns, rfl, hS, fun H1 e es W1 hl180 => ?_⟩
    obtain ⟨s1, he1, w', W⟩ := W1
    have el : (vI es).length = es.length := by simp [vI]
    refine ⟨_, rfl, e, _, rfl, .inl (SqL.of he1), ?_⟩
    rw [el]
    refine ⟨_, rfl, e, es, w', rfl, he1, W, by omega, fun H2 t s2 P2 => ?_⟩
    refine ⟨_, rfl, t, es.length, pf es, rfl, P2, by omega, fun H3 l s3 hl3 => ?_⟩
    have s23 := s2.trans s3
    have he3 := s23 _ _ he1
    refine ⟨_, rfl, e, _, rfl, .inl (SqL.of he3), fun h nh => ?_⟩
    have s34 : Same H3 (upd H3 h (.lst (vI es))) := same_new nh
    have hh4 : (upd H3 h (.lst (vI es))) h = some (.lst (vI es)) := upd_same
    generalize (upd H3 h (.lst (vI es))) = H4 at s34 hh4 ⊢
    refine ⟨_, rfl, fun x dx nx ndx nex => ⟨x, dx, h, es, w', rfl, upd_same, ?_, W, by omega, fun H5 WA but5 => ⟨rfl, ?_⟩⟩⟩
    · rw [upd_ne (ne_of_none hh4 nx), upd_ne (ne_of_none hh4 ndx)]
      exact hh4
    have s45 : Same H4 H5 := Same.made nx ndx but5
    have hh5 := s45 _ _ hh4
    refine ⟨_, rfl, .inl ⟨rfl, _, SqL.of hh5⟩, h, _, rfl, rfl, hh5, ?_⟩
    have but6 : But h H5 (upd H5 h (.lst [])) := fun b o eb nb => by
      rw [upd_ne nb]
      exact eb
    have s36 : Same H3 (upd H5 h (.lst [])) := fun b o eb => by
      rw [upd_ne (ne_of_none eb nh)]
      exact s45 _ _ (s34 _ _ eb)
    have WA6 := WA.butL but6 hh5
    generalize (upd H5 h (.lst [])) = H6 at s36 WA6 ⊢
    have he6 := s36 _ _ he3
    have P6 := P2.mono (s3.trans s36)
    have hl6 := s36 _ _ hl3
    have hS6 := hS
    obtain ⟨dxw, c, q, o1, Cw, Pw⟩ := id WA6
    have Wp : WdP es.length (pf es) := ⟨W.hp, W.nc, by omega⟩
    have rl : (tx (row es.length (pf es))).length = 2 * es.length + 1 := by rw [tx_len, row_len es.length (pf es) W.hp]
    have la := low_all es.length (pf es) W.hp
    have hlast : vN (begs es.length (pf es)) = vN ((List.range es.length).map fun j => low es.length (pf es) (j + 1)) ++ [.int ((2 * es.length + 1 : Nat) : Int)] := by
      unfold begs vN
      rw [List.range_succ, List.map_append, List.map_append, ← la]
      rfl
    refine ⟨_, rfl, x, dxw, _, rfl, o1, wF_no (by decide +kernel) (by decide +kernel) (by decide +kernel) (by decide +kernel), x, es.length, pf es, rfl, WA6, _, rfl, by rw [rl]; exact sl_20 (by omega), _, rfl, 1, rfl, l, _, -1, _, rfl, rfl, SqL.of hl6, (by rw [hlast]; exact atI_last _ _), rfl, _, rfl, iteNS (by rw [rl]) ?_⟩
    refine ⟨_, rfl, rfl, _, rfl, ite2 (fun z => k _) (fun z => ?_)⟩
    have mpos : 0 < es.length := by
      cases q : es.length with
      | zero => exact absurd (by rw [q]; rfl) z
      | succ m => omega
    have hSX : ∀ {H' : Hp}, Same H1 H' → SqL K H' a (vI ns) := fun s => (s1.trans s).seq hS
    have s16 := s23.trans s36
    refine ⟨_, rfl, _, rfl, a, ns, 2, rfl, hSX s16, _, 90, rfl, by decide, fun r => ⟨es.length, r, rfl, mpos, by omega, fun H7 so ks s7 hso hks hk8 => ?_⟩⟩
    obtain ⟨ai, atp, ad, ab, rs, g1, g2, g3, g4, g5, g6⟩ := id P6
    have ekl : (vN ks).length = ks.length := by simp [vN]
    refine ⟨_, rfl, so, rfl, ⟨_, SqL.of hso⟩, for_list (K := K) (a := so) (xs := vN ks) (fun i σ H' => ∃ v8 v9 v10, σ = [some (.ref a), some (.ref e), some (.int (es.length : Nat)), some (.ref t), some (.ref l), some (.ref h), some (.ref x), some (.ref so), v8, v9, v10] ∧ Same H7 H')
      ⟨none, none, none, rfl, Same.refl _⟩ (fun i σ H' _ ⟨_, _, _, _, s⟩ => SqL.of (s _ _ hso)) ?_ ?_⟩
    · rintro i y σ H8 hi ⟨v8, v9, v10, rfl, s8⟩
      obtain ⟨o, ho, rfl⟩ : ∃ o : Nat, ks[i]? = some o ∧ y = V.int (o : Nat) := by
        unfold vN at hi
        rw [List.getElem?_map] at hi
        cases q : ks[i]? with
        | none =>
          rw [q] at hi
          cases hi
        | some o =>
          rw [q] at hi
          exact ⟨o, rfl, (Option.some.inj hi).symm⟩
      have hok := hks o (List.mem_of_getElem? ho)
      have s68 := s7.trans s8
      have he8 := s68 _ _ he6
      refine ⟨_, rfl, _, rfl, _, rfl, _, rfl, _, rfl, x, e, t, l, es, w', o, rfl, WA6.mono s68, he8, W, by omega, P6.mono s68, s68 _ _ hl6, hok, fun H9 s9 => ⟨true, rfl, iteF ?_⟩⟩
      have s69 := s68.trans s9
      have s79 := s8.trans s9
      have ek := List.getElem?_eq_getElem hok
      have hso9 := s79 _ _ hso
      refine ⟨_, rfl, _, rfl, _, rfl, e, _, _, _, rfl, rfl, SqL.of (s69 _ _ he6), at_of rfl (at_vI ek), _, _, rfl, ?_⟩
      obtain ⟨ge, hge, hgl⟩ : ∃ g : Nat, (if es[o] > 0 then es[o] else 0) = (g : Int) ∧ g < es.length := by
        split
        · obtain ⟨j, ej, ji, _⟩ := (pf_neg' W ek).2 (by omega)
          exact ⟨j, ej, by omega⟩
        · exact ⟨0, rfl, mpos⟩
      dsimp only
      rw [hge]
      refine ⟨_, rfl, _, _, rfl, rfl, (by show 3 ≤ sizeLine; decide), fun D nD => ?_⟩
      have hsoD := (same_new (o := .lst [V.int (ge : Nat), V.int 0, V.int ((es.length : Int) - 1)]) nD) _ _ hso9
      refine ⟨so, D, _, _, rfl, rfl, hsoD, upd_same, by rw [ekl]; exact sl_20 (by simp; omega), fun u nu => ?_⟩
      have s910 := (same_new (o := .lst [V.int (ge : Nat), V.int 0, V.int ((es.length : Int) - 1)]) nD).trans (same_new (o := .lst (vN ks ++ [V.int (ge : Nat), V.int 0, V.int ((es.length : Int) - 1)])) nu)
      have hu : (upd (upd H9 D (.lst [V.int (ge : Nat), V.int 0, V.int ((es.length : Int) - 1)])) u (.lst (vN ks ++ [V.int (ge : Nat), V.int 0, V.int ((es.length : Int) - 1)]))) u = some (.lst (vN (ks ++ [ge, 0, es.length - 1]))) := by
        rw [upd_same]
        congr 2
        unfold vN
        rw [List.map_append]
        congr 1
        show _ = [V.int (ge : Int), V.int ((0 : Nat) : Int), V.int ((es.length - 1 : Nat) : Int)]
        rw [show ((es.length - 1 : Nat) : Int) = (es.length : Int) - 1 by omega]
        rfl
      generalize (upd (upd H9 D (.lst [V.int (ge : Nat), V.int 0, V.int ((es.length : Int) - 1)])) u (.lst (vN ks ++ [V.int (ge : Nat), V.int 0, V.int ((es.length : Int) - 1)]))) = H10 at s910 hu ⊢
      have hks2 : ∀ z ∈ ks ++ [ge, 0, es.length - 1], z < es.length := by
        intro z hz
        rcases List.mem_append.mp hz with hz | hz
        · exact hks z hz
        · simp only [List.mem_cons, List.not_mem_nil, or_false] at hz
          omega
      refine ⟨u, rfl, ⟨_, SqL.of hu⟩, ?_⟩
      refine for_list (D := { nx := fun σ H' => ∃ v8 v9 v10, σ = [some (.ref a), some (.ref e), some (.int (es.length : Nat)), some (.ref t), some (.ref l), some (.ref h), some (.ref x), some (.ref so), v8, v9, v10] ∧ Same H7 H', rt := Q, bk := fun σ H' => ∃ v8 v9 v10, σ = [some (.ref a), some (.ref e), some (.int (es.length : Nat)), some (.ref t), some (.ref l), some (.ref h), some (.ref x), some (.ref so), v8, v9, v10] ∧ Same H7 H', ct := fun σ H' => ∃ v8 v9 v10, σ = [some (.ref a), some (.ref e), some (.int (es.length : Nat)), some (.ref t), some (.ref l), some (.ref h), some (.ref x), some (.ref so), v8, v9, v10] ∧ Same H7 H' }) (K := K) (a := u) (xs := vN (ks ++ [ge, 0, es.length - 1])) (fun i σ H' => ∃ v9 v10, σ = [some (.ref a), some (.ref e), some (.int (es.length : Nat)), some (.ref t), some (.ref l), some (.ref h), some (.ref x), some (.ref so), some (.int (o : Nat)), v9, v10] ∧ Same H10 H')
        ⟨v9, v10, rfl, Same.refl _⟩ (fun i σ H' _ ⟨_, _, _, s⟩ => SqL.of (s _ _ hu)) ?_ ?_
      · rintro i2 y2 σ H11 hi2 ⟨v9, v10, rfl, s11⟩
        obtain ⟨m, hm, rfl⟩ : ∃ m : Nat, (ks ++ [ge, 0, es.length - 1])[i2]? = some m ∧ y2 = V.int (m : Nat) := by
          unfold vN at hi2
          rw [List.getElem?_map] at hi2
          cases q : (ks ++ [ge, 0, es.length - 1])[i2]? with
          | none =>
            rw [q] at hi2
            cases hi2
          | some m =>
            rw [q] at hi2
            exact ⟨m, rfl, (Option.some.inj hi2).symm⟩
        have hml := hks2 m (List.mem_of_getElem? hm)
        have B := bh_is (p := pf es) hml
        have s611 := (s69.trans s910).trans s11
        refine ⟨_, rfl, x, dxw, _, rfl, s611 _ _ o1, wF_no (by decide +kernel) (by decide +kernel) (by decide +kernel) (by decide +kernel), _, rfl, _, rfl, x, es.length, pf es, o, m, _, rfl, WA6.mono s611, Wp, hok, hml, B, fun H12 s12 => ?_⟩
        have s612 := s611.trans s12
        have hbel : (vI ((List.range es.length).map fun j => fb es.length (pf es) j - 1))[m]? = some (.int (fb es.length (pf es) m - 1)) := at_vI (by rw [List.getElem?_map, List.getElem?_range hml]; rfl)
        refine ⟨_, rfl, isi_bl_bool _ ⟨true, rfl, iteF ?_⟩⟩
        refine ⟨_, rfl, _, rfl, _, rfl, _, _, rfl, rfl, _, rfl, ite2 (fun z => ?_) (fun z => ?_)⟩
        · have z1 : (m : Int) ≤ (o : Int) := of_decide_eq_true z
          refine ⟨_, rfl, _, rfl, _, rfl, t, _, _, _, rfl, rfl, SqT.of (s612 _ _ g1), atI_nat (j := 3) rfl, _, rfl, ab, _, _, _, rfl, rfl, SqL.of (s612 _ _ g6), at_of rfl hbel, _, _, rfl, rfl, _, _, rfl, rfl, rfl, _, rfl, iteNS ?_ ⟨_, _, rfl, s11.trans s12⟩⟩
          congr 1
          apply decide_eq_decide.mpr
          unfold fb
          omega
        · have z1 : ¬ (m : Int) ≤ (o : Int) := fun w => z (decide_eq_true w)
          refine ⟨rfl, _, rfl, iteNS ?_ ⟨_, _, rfl, s11.trans s12⟩⟩
          congr 1
          rw [decide_eq_false_iff_not]
          omega
      · rintro σ H11 ⟨v9, v10, rfl, s11⟩
        exact ⟨some (.int (o : Nat)), v9, v10, rfl, (s79.trans s910).trans s11⟩
    · rintro σ H8 ⟨v8, v9, v10, rfl, s8⟩
      exact k _
end
end TW
/-! All: every def's promise from the one text (printed by gen_fin.py). -/
namespace TW
open PySem PySem.Spec PyProof.Rows L2
theorem ok_all {P : Program} {w : World} {K : PySem.W.Frag} {mg : Str → Option Value} {base : Heap} (T : Txt K mg) : ∃ fd, FnOk P w K mg base CX0 13 (He.ga K "law") fd ["_law_script"] (spLaw K) ∧ PySem.W.keepIn K (.ref (He.ga K "law")) = true ∧ Binds K fd ["_law_script"] [] ∧ FunD K "law" "law" (defArgs sLaw) (defBody sLaw) (defScope sLaw) [] [] (He.ga K "law") fd := by
  have o_LawBegins : Cl P w K mg base 1 "_law_begins" spLawBegins := ok_LawBegins T 
  have o_LawCellAt : Cl P w K mg base 1 "_law_cell_at" (spLawCellAt K) := ok_LawCellAt T 
  have o_LawPlain : Cl P w K mg base 1 "_law_plain" spLawPlain := ok_LawPlain T 
  have o_LawIs : Cl P w K mg base 1 "_law_is" spLawIs := ok_LawIs T 
  have o_IsWholeC : Cl P w K mg base 1 "is_whole_counts" spIsWhole := ok_IsWholeC T 
  have o_NeedBit : Cl P w K mg base 2 "need_bit" spNeedBit := ok_NeedBit T o_IsWholeC
  have o_OnesIn : Cl P w K mg base 1 "ones_in" spOnesIn := ok_OnesIn T 
  have o_C_OnesAhead : Mt P w K mg base 2 (cC K) "ones_ahead" (spOnesAhead K) := ok_C_OnesAhead T o_OnesIn
  have o_C_Ahead : Mt P w K mg base 3 (cC K) "ahead" (spAhead K) := ok_C_Ahead T o_IsWholeC o_NeedBit o_C_OnesAhead
  have o_P_Height : Mt P w K mg base 4 (cP K) "height" (spHeight K) := ok_P_Height T o_C_Ahead
  have o_IsWholeP : Cl P w K mg base 1 "is_whole_pairs" spIsWhole := ok_IsWholeP T 
  have o_P_AskHeight : Mt P w K mg base 5 (cP K) "ask_height" (spAskHeight K) := ok_P_AskHeight T o_IsWholeP o_P_Height
  have o_B_Size : Mt P w K mg base 1 (cB K) "size" (spBSize K) := ok_B_Size T 
  have o_P_Size : Mt P w K mg base 2 (cP K) "size" (spPSize K) := ok_P_Size T o_B_Size
  have o_P_EndsOf : Mt P w K mg base 3 (cP K) "ends_of" (spEndsOf K) := ok_P_EndsOf T o_P_Size
  have o_P_Step : Mt P w K mg base 1 (cP K) "step" (spStep K) := ok_P_Step T 
  have o_P_FirstIn : Mt P w K mg base 5 (cP K) "first_in" (spFirstIn K) := ok_P_FirstIn T o_P_Height o_P_Step
  have o_P_NextAt : Mt P w K mg base 6 (cP K) "next_at" (spNextAt K) := ok_P_NextAt T o_P_AskHeight o_P_EndsOf o_P_FirstIn
  have o_B_At : Mt P w K mg base 1 (cB K) "at" (spBAt K) := ok_B_At T 
  have o_IsAmid : Cl P w K mg base 1 "is_amid" spIsAmid := ok_IsAmid T 
  have o_B_Need : Mt P w K mg base 2 (cB K) "need" spBNeed := ok_B_Need T o_IsAmid
  have o_B_Bit : Mt P w K mg base 3 (cB K) "bit" (spBAt K) := ok_B_Bit T o_B_At o_B_Need
  have o_P_LastIn : Mt P w K mg base 5 (cP K) "last_in" (spLastIn K) := ok_P_LastIn T o_P_Height o_P_Step
  have o_P_LastAt : Mt P w K mg base 6 (cP K) "last_at" (spLastAt K) := ok_P_LastAt T o_P_AskHeight o_P_EndsOf o_P_LastIn
  have o_P_OpeningOf : Mt P w K mg base 7 (cP K) "opening_of" (spOpeningOf K) := ok_P_OpeningOf T o_B_Bit o_P_Height o_P_LastAt
  have o_P_Partner : Mt P w K mg base 8 (cP K) "partner" (spPartner K) := ok_P_Partner T o_P_Height o_P_NextAt o_P_OpeningOf
  have o_P_Round : Mt P w K mg base 8 (cP K) "round" (spRound K) := ok_P_Round T o_P_Height o_P_LastAt o_P_OpeningOf
  have o_NthOne : Cl P w K mg base 2 "nth_one" spNthOne := ok_NthOne T o_OnesIn
  have o_C_AllLike : Mt P w K mg base 1 (cC K) "all_like" (spAllLike K) := ok_C_AllLike T 
  have o_C_LikeAhead : Mt P w K mg base 1 (cC K) "like_ahead" (spLikeAhead K) := ok_C_LikeAhead T 
  have o_C_BlockOf : Mt P w K mg base 2 (cC K) "block_of" (spBlockOf K) := ok_C_BlockOf T o_C_LikeAhead
  have o_C_Like : Mt P w K mg base 1 (cC K) "like" (spLike K) := ok_C_Like T 
  have o_C_PlaceOf : Mt P w K mg base 3 (cC K) "place_of" (spPlaceOf K) := ok_C_PlaceOf T o_IsWholeC o_NeedBit o_NthOne o_OnesIn o_C_AllLike o_C_BlockOf o_C_Like o_C_LikeAhead
  have o_W_Group : Mt P w K mg base 4 (cW K) "group" (spGroup K) := ok_W_Group T o_C_PlaceOf
  have o_IsFromNought : Cl P w K mg base 1 "is_from_nought" spIsFromNought := ok_IsFromNought T 
  have o_W_Need : Mt P w K mg base 2 (cW K) "need" (spWNeed K) := ok_W_Need T o_IsFromNought
  have o_W_Stretch : Mt P w K mg base 9 (cW K) "stretch" (spStretch K) := ok_W_Stretch T o_P_Partner o_P_Round o_W_Group o_W_Need
  have o_W_Behind : Mt P w K mg base 10 (cW K) "behind" (spBehind K) := ok_W_Behind T o_C_Ahead o_W_Stretch
  have o_W_SignOf : Mt P w K mg base 9 (cW K) "sign_of" (spSignOf K) := ok_W_SignOf T o_P_Partner o_W_Group
  have o_W_Over : Mt P w K mg base 10 (cW K) "over" (spOver K) := ok_W_Over T o_C_Ahead o_W_SignOf
  have o_W_ChildPlace : Mt P w K mg base 11 (cW K) "child_place" (spChildPlace K) := ok_W_ChildPlace T o_W_Group o_W_Need o_W_Over o_W_SignOf
  have o_LawRight : Cl P w K mg base 12 "_law_right" (spLawRight K) := ok_LawRight T o_LawIs o_W_Behind o_W_ChildPlace o_W_Stretch
  have o_LawSome : Cl P w K mg base 1 "_law_some" spLawSome := ok_LawSome T 
  have o_LawTwice : Cl P w K mg base 1 "_law_twice" spLawTwice := ok_LawTwice T 
  have o_LawDrawn : Cl P w K mg base 2 "_law_drawn" (spLawDrawn K) := ok_LawDrawn T o_LawCellAt o_LawTwice
  have o_LawGrown : Cl P w K mg base 1 "_law_grown" spLawGrown := ok_LawGrown T 
  have o_LawRepeated : Cl P w K mg base 1 "_law_repeated" spLawRepeated := ok_LawRepeated T 
  have o_LawWood : Cl P w K mg base 3 "_law_wood" (spLawWood K) := ok_LawWood T o_LawCellAt o_LawDrawn o_LawGrown o_LawRepeated
  have o_GroupsRow : Cl P w K mg base 1 "groups_row" spGroupsRow := ok_GroupsRow T 
  have o_CountedRow : Cl P w K mg base 2 "counted_row" spCountedRow := ok_CountedRow T o_GroupsRow
  have o_LookAt : Cl P w K mg base 1 "look_at" spLookAt := ok_LookAt T 
  have o_WordsOf : Cl P w K mg base 1 "words_of" spWordsOf := ok_WordsOf T 
  have o_B_Init : Mkk P w K mg base 2 "Bits" (cB K) (spBInit K) := ok_B_Init T o_WordsOf
  have o_B_Words : Mt P w K mg base 1 (cB K) "words" (spBWords K) := ok_B_Words T 
  have o_C_Init : Mkk P w K mg base 2 "Counts" (cC K) (spCInit K) := ok_C_Init T o_OnesIn o_B_Size o_B_Words
  have o_AskRow : Cl P w K mg base 1 "ask_row" spAskRow := ok_AskRow T 
  have o_TableOf : Cl P w K mg base 1 "table_of" spTableOf := ok_TableOf T 
  have o_P_Init : Mkk P w K mg base 4 "Pairs" (cP K) (spPInit K) := ok_P_Init T o_AskRow o_TableOf o_B_Init o_C_Init o_B_Words
  have o_W_Init : Mkk P w K mg base 6 "Counted" (cW K) (spWInit K) := ok_W_Init T o_CountedRow o_LookAt o_B_Init o_C_Init o_P_Init
  have o_W_LiesBeneath : Mt P w K mg base 11 (cW K) "lies_beneath" (spLies K) := ok_W_LiesBeneath T o_W_Behind o_W_Need
  have o_W_Row : Mt P w K mg base 1 (cW K) "row" (spRowW K) := ok_W_Row T 
  exact ok_Law T o_LawBegins o_LawCellAt o_LawPlain o_LawRight o_LawSome o_LawTwice o_LawWood o_W_Init o_W_LiesBeneath o_W_Row
end TW
/-! Fin: head and body joined. -/
namespace TW
open PySem PySem.Spec PyProof.Rows L2
theorem fd_one {K : PySem.W.Frag} {x q : Str} {ps : Arguments} {body : List Stmt} {sc : Scope} {dvs : List V} {kws : List (Str × V)} {f : Addr} {fd fd' : FuncData} (F : FunD K x q ps body sc dvs kws f fd) (G : FunD K x q ps body sc dvs kws f fd') : fd' = fd := by
  obtain ⟨_, _, _, _, _, _, _, _, _, _, _, lk, _⟩ := F.ex
  obtain ⟨_, _, _, _, _, _, _, _, _, _, _, lk', _⟩ := G.ex
  have e := lk'.symm.trans lk
  injection e with e
  injection e with _ _ e
  injection e
end TW
open PySem PySem.W PySem.Calls PyProof.Rows
set_option maxHeartbeats 0 in
theorem PySem.Challenge.cw_tightwood_k53_stretches_holds : PySem.Challenge.rw_tightwood_k53_stretches.Holds := by
  w_on; o_law
  refine HandSHeadRun.head_any (r := OpenLaw.row PySem.Challenge.rw_tightwood_k53_stretches) (q := view (OpenLaw.row PySem.Challenge.rw_tightwood_k53_stretches).prog [55]) (H := TW.hk) (ob := TW.ob) (M := 12000) (loose := TW.loose) (d := HandSHeadRun.topDef (OpenLaw.row PySem.Challenge.rw_tightwood_k53_stretches).prog 55) (kwd := []) TW.ob_eq
    (by kernel_rfl) (fun s => by kernel_rfl) TW.run (by kernel_rfl) (by kernel_rfl) (by kernel_rfl) (by rfl) (by first | assumption | decide +kernel) (by decide +kernel) ⟨rfl, rfl, rfl, rfl, rfl, by decide +kernel⟩ ?hw ?hc
  case hw => w_witness2
  case hc =>
    refine L2.walk_ofE (l := PySem.Challenge.rw_tightwood_k53_stretches) (n := 63) (k := 30) (x := "_law_script") (CX := L2.CX0) rfl (by decide) (by kernel_rfl) ⟨rfl, by decide, by decide⟩ ?F (fun _ _ _ _ z => z)
    intro w mg fa h Y G hmg0
    obtain ⟨K, KX, c⟩ := Y
    have hmg : mg ("law" : PySem.Str) = some (.ref fa) := by
      have e : (HandSHeadRun.topDef (OpenLaw.row PySem.Challenge.rw_tightwood_k53_stretches).prog 55).name = ("law" : PySem.Str) := by kernel_rfl
      rw [← e]
      exact hmg0
    have T : TW.Txt K mg := TW.txt_of KX G c
    have e := hmg.symm.trans T.g_law
    cases e
    obtain ⟨fd, _, _, _, F⟩ := TW.ok_all (P := (PySem.Challenge.rw_tightwood_k53_stretches).prog) (w := w) (base := h) T
    have b := L2.FunD.bindsA (ps := ["_law_script"]) F fun _ _ _ _ _ _ us hl => match us, hl with | [_], _ => rfl
    refine ⟨K, fd, TW.spLaw K, KX, fun s v => b s [v] rfl, fun H a ns hl _ hS => ⟨a, ns, rfl, hS, hl, fun _ => rfl⟩, fun base _ _ => ?_⟩
    obtain ⟨fd', F', _, _, F2⟩ := TW.ok_all (P := (PySem.Challenge.rw_tightwood_k53_stretches).prog) (w := w) (base := base) T
    have e2 := TW.fd_one F F2
    subst e2
    exact F'.mono (by decide)
