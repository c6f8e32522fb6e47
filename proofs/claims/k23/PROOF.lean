import PyProof.Rows.All
import Wide.All
import OpenK.AllK
import Wide.FinOn
import HandS.ForMost
import HandS.Strs
import HandS.IsInst
import HandS.Style
import HandS.TupAny
import HandS.Deep
import HandS.Steps
import KE.OsArith
import PySem.Challenge.RW_worldfind_k23_whole_what_is_told_is_so
import KE.KxText
set_option Elab.async false
set_option autoImplicit false
set_option linter.all false
set_option maxRecDepth 100000
namespace Wf
/-! ## Ties over n things as functions; their whole numbers -/
abbrev F := Nat → Nat → Bool

/-- the number of the first m bits of g -/
def bitsum : Nat → (Nat → Bool) → Nat
  | 0, _ => 0
  | m + 1, g => bitsum m g + (g m).toNat * 2 ^ m

theorem bitsum_lt : ∀ (m : Nat) (g : Nat → Bool), bitsum m g < 2 ^ m
  | 0, _ => by simp [bitsum]
  | m + 1, g => by
    have ih := bitsum_lt m g
    have h2 : 2 ^ (m + 1) = 2 ^ m + 2 ^ m := by rw [Nat.pow_succ]; omega
    unfold bitsum
    cases g m with
    | true => simp only [Bool.toNat_true, Nat.one_mul]; omega
    | false => simp only [Bool.toNat_false, Nat.zero_mul]; omega

theorem testBit_bitsum : ∀ (m : Nat) (g : Nat → Bool) (k : Nat), (bitsum m g).testBit k = (decide (k < m) && g k)
  | 0, g, k => by simp [bitsum]
  | m + 1, g, k => by
    have ih := testBit_bitsum m g k
    have hl := bitsum_lt m g
    unfold bitsum
    cases hg : g m with
    | false =>
      simp only [Bool.toNat_false, Nat.zero_mul, Nat.add_zero, ih]
      by_cases h : k = m
      · subst h; simp [hg]
      · have : (k < m) = (k < m + 1) := by apply propext; omega
        simp [this]
    | true =>
      simp only [Bool.toNat_true, Nat.one_mul]
      rw [Nat.add_comm]
      rcases Nat.lt_trichotomy k m with h | h | h
      · rw [Nat.testBit_two_pow_add_gt h, ih]
        have h1 : k < m + 1 := by omega
        simp [h, h1]
      · subst h
        rw [Nat.testBit_two_pow_add_eq, ih]
        simp [hg]
      · have hlt : 2 ^ m + bitsum m g < 2 ^ k := by
          have h2 : 2 ^ (m + 1) = 2 ^ m + 2 ^ m := by rw [Nat.pow_succ]; omega
          have h3 : 2 ^ (m + 1) ≤ 2 ^ k := Nat.pow_le_pow_right (by omega) (by omega)
          omega
        rw [Nat.testBit_lt_two_pow hlt]
        have h1 : ¬ k < m + 1 := by omega
        simp [h1]

/-- the tie's number -/
def enc (n : Nat) (f : F) : Nat := bitsum (n * n) fun k => f (k / n) (k % n)
theorem enc_lt (n : Nat) (f : F) : enc n f < 2 ^ (n * n) := bitsum_lt _ _
theorem testBit_enc (n : Nat) (f : F) (k : Nat) : (enc n f).testBit k = (decide (k < n * n) && f (k / n) (k % n)) := testBit_bitsum _ _ _
theorem ix_lt {n a b : Nat} (ha : a < n) (hb : b < n) : a * n + b < n * n := by
  have h1 : (a + 1) * n ≤ n * n := Nat.mul_le_mul_right n ha
  rw [Nat.add_mul] at h1
  omega
theorem ix_div {n a b : Nat} (hb : b < n) : (a * n + b) / n = a := by
  have h0 : 0 < n := by omega
  rw [Nat.add_comm, Nat.add_mul_div_right _ _ h0, Nat.div_eq_of_lt hb]
  omega
theorem ix_mod {n a b : Nat} (hb : b < n) : (a * n + b) % n = b := by
  rw [Nat.add_comm, Nat.add_mul_mod_self_right, Nat.mod_eq_of_lt hb]
theorem ix_of {n k : Nat} (h : k < n * n) : k / n < n ∧ k % n < n ∧ k / n * n + k % n = k := by
  have h0 : 0 < n := by
    rcases Nat.eq_zero_or_pos n with h0 | h0
    · subst h0; simp at h
    · exact h0
  refine ⟨Nat.div_lt_of_lt_mul h, Nat.mod_lt _ h0, ?_⟩
  rw [Nat.mul_comm]
  exact Nat.div_add_mod k n
theorem enc_at {n : Nat} (f : F) {a b : Nat} (ha : a < n) (hb : b < n) : (enc n f).testBit (a * n + b) = f a b := by
  rw [testBit_enc, ix_div hb, ix_mod hb]
  simp [ix_lt ha hb]
/-- a number below 2^(n*n) is that of its tie -/
def bitF (n t : Nat) : F := fun a b => t.testBit (a * n + b)
theorem enc_bitF {n t : Nat} (h : t < 2 ^ (n * n)) : enc n (bitF n t) = t := by
  apply Nat.eq_of_testBit_eq
  intro k
  rw [testBit_enc]
  by_cases hk : k < n * n
  · unfold bitF
    rw [(ix_of hk).2.2]
    simp [hk]
  · have h2 : t < 2 ^ k := Nat.lt_of_lt_of_le h (Nat.pow_le_pow_right (by omega) (by omega))
    rw [Nat.testBit_lt_two_pow h2]
    simp [hk]
theorem enc_ext {n : Nat} {f g : F} (h : ∀ a b, a < n → b < n → f a b = g a b) : enc n f = enc n g := by
  apply Nat.eq_of_testBit_eq
  intro k
  rw [testBit_enc, testBit_enc]
  by_cases hk : k < n * n
  · rw [h _ _ (ix_of hk).1 (ix_of hk).2.1]
  · simp [hk]
theorem enc_inj {n : Nat} {f g : F} (h : enc n f = enc n g) : ∀ a b, a < n → b < n → f a b = g a b := fun a b ha hb => by
  rw [← enc_at f ha hb, h, enc_at g ha hb]
/-- to show that a number is a tie's -/
theorem eq_enc {n t : Nat} {f : F} (h : ∀ a b, a < n → b < n → t.testBit (a * n + b) = f a b) (hz : ∀ k, n * n ≤ k → t.testBit k = false) : t = enc n f := by
  apply Nat.eq_of_testBit_eq
  intro k
  rw [testBit_enc]
  by_cases hk : k < n * n
  · have q := ix_of hk
    have e := h _ _ q.1 q.2.1
    rw [q.2.2] at e
    rw [e]
    simp [hk]
  · rw [hz k (by omega)]
    simp [hk]
theorem enc_zero {n : Nat} {f : F} {k : Nat} (h : n * n ≤ k) : (enc n f).testBit k = false := by
  rw [testBit_enc]
  have : ¬ k < n * n := by omega
  simp [this]

/-! ## what the words make -/
def orF (f g : F) : F := fun a b => f a b || g a b
def andF (f g : F) : F := fun a b => f a b && g a b
def lessF (f g : F) : F := fun a b => f a b && !g a b
def turnF (f : F) : F := fun a b => f b a
def joinF (n : Nat) (f g : F) : F := fun a b => (List.range n).any fun k => f a k && g k b
def sameF : F := fun a b => a == b
def allF : F := fun _ _ => true
def noF : F := fun _ _ => false
def kindF (k : Nat) : F := fun a b => a == b && k.testBit a

theorem enc_or (n : Nat) (f g : F) : enc n f ||| enc n g = enc n (orF f g) := by
  refine eq_enc (fun a b ha hb => ?_) fun k hk => ?_
  · rw [Nat.testBit_or, enc_at f ha hb, enc_at g ha hb]; rfl
  · rw [Nat.testBit_or, enc_zero hk, enc_zero hk]; rfl
theorem enc_and (n : Nat) (f g : F) : enc n f &&& enc n g = enc n (andF f g) := by
  refine eq_enc (fun a b ha hb => ?_) fun k hk => ?_
  · rw [Nat.testBit_and, enc_at f ha hb, enc_at g ha hb]; rfl
  · rw [Nat.testBit_and, enc_zero hk, enc_zero hk]; rfl
theorem enc_less (n : Nat) (f g : F) : enc n f ^^^ (enc n f &&& enc n g) = enc n (lessF f g) := by
  refine eq_enc (fun a b ha hb => ?_) fun k hk => ?_
  · rw [Nat.testBit_xor, Nat.testBit_and, enc_at f ha hb, enc_at g ha hb]
    unfold lessF
    cases f a b <;> cases g a b <;> rfl
  · rw [Nat.testBit_xor, Nat.testBit_and, enc_zero hk, enc_zero hk]; rfl
theorem enc_all (n : Nat) : 2 ^ (n * n) - 1 = enc n allF := by
  refine eq_enc (fun a b ha hb => ?_) fun k hk => ?_
  · rw [Nat.testBit_two_pow_sub_one]; simp [ix_lt ha hb, allF]
  · rw [Nat.testBit_two_pow_sub_one]; simp; omega
theorem enc_none (n : Nat) : 0 = enc n noF := by
  refine eq_enc (fun a b ha hb => ?_) fun k hk => ?_ <;> simp [noF]

/-! ### by the pairs -/
/-- the pairs, sorted -/
def prs (n : Nat) (f : F) : List (Nat × Nat) := (List.range n).flatMap fun a => ((List.range n).filter (f a)).map fun b => (a, b)
theorem mem_prs {n : Nat} {f : F} {p : Nat × Nat} : p ∈ prs n f ↔ p.1 < n ∧ p.2 < n ∧ f p.1 p.2 = true := by
  unfold prs
  rw [List.mem_flatMap]
  constructor
  · rintro ⟨a, ha, hp⟩
    obtain ⟨b, hb, rfl⟩ := List.mem_map.mp hp
    rw [List.mem_filter, List.mem_range] at hb
    exact ⟨List.mem_range.mp ha, hb.1, hb.2⟩
  · rintro ⟨h1, h2, h3⟩
    exact ⟨p.1, List.mem_range.mpr h1, List.mem_map.mpr ⟨p.2, List.mem_filter.mpr ⟨List.mem_range.mpr h2, h3⟩, rfl⟩⟩
theorem prs_len (n : Nat) (f : F) : (prs n f).length ≤ n * n := by
  unfold prs
  rw [List.length_flatMap]
  have h : ∀ l : List Nat, (l.map fun a => (((List.range n).filter (f a)).map fun b => (a, b)).length).sum ≤ l.length * n := by
    intro l
    induction l with
    | nil => simp
    | cons x r ih =>
      rw [List.map_cons, List.sum_cons, List.length_cons, Nat.succ_mul, List.length_map]
      have h1 := List.length_filter_le (f x) (List.range n)
      rw [List.length_range] at h1
      omega
  have q := h (List.range n)
  rw [List.length_range] at q
  exact q
theorem testBit_foldl_or {α : Type} (h : α → Nat) (k : Nat) : ∀ (l : List α) (z : Nat), (l.foldl (fun acc p => acc ||| h p) z).testBit k = (z.testBit k || l.any fun p => (h p).testBit k)
  | [], z => by simp
  | x :: r, z => by
    rw [List.foldl_cons, testBit_foldl_or h k r, Nat.testBit_or, List.any_cons, Bool.or_assoc]
theorem any_iff {α : Type} {l : List α} {p : α → Bool} {q : Prop} [Decidable q] (h : (∃ x, x ∈ l ∧ p x = true) ↔ q) : l.any p = decide q := by
  rw [Bool.eq_iff_iff, List.any_eq_true, decide_eq_true_iff]
  exact h
theorem beq_dec (b : Bool) : b = decide (b = true) := by cases b <;> rfl
theorem ix_inj {n a b c d : Nat} (hb : b < n) (hd : d < n) (h : a * n + b = c * n + d) : a = c ∧ b = d := by
  have h1 := congrArg (· / n) h
  have h2 := congrArg (· % n) h
  simp only [ix_div hb, ix_div hd, ix_mod hb, ix_mod hd] at h1 h2
  exact ⟨h1, h2⟩
theorem testBit_one_shl (i k : Nat) : (1 <<< i).testBit k = decide (k = i) := by
  rw [Nat.shiftLeft_eq, Nat.one_mul, Nat.testBit_two_pow]
  by_cases h : i = k <;> simp [h, eq_comm]
theorem enc_turn (n : Nat) (f : F) : (prs n f).foldl (fun acc p => acc ||| 1 <<< (p.2 * n + p.1)) 0 = enc n (turnF f) := by
  refine eq_enc (fun a b ha hb => ?_) fun k hk => ?_
  · rw [testBit_foldl_or (fun p : Nat × Nat => 1 <<< (p.2 * n + p.1))]
    unfold turnF
    rw [Nat.zero_testBit, Bool.false_or, beq_dec (f b a)]
    refine any_iff ⟨?_, fun h => ⟨(b, a), mem_prs.mpr ⟨hb, ha, h⟩, ?_⟩⟩
    · rintro ⟨p, hp, h⟩
      rw [testBit_one_shl, decide_eq_true_iff] at h
      obtain ⟨h1, h2, h3⟩ := mem_prs.mp hp
      obtain ⟨e1, e2⟩ := ix_inj hb h1 h
      rw [e1, e2]; exact h3
    · rw [testBit_one_shl]; simp
  · rw [testBit_foldl_or (fun p : Nat × Nat => 1 <<< (p.2 * n + p.1)), Nat.zero_testBit, Bool.false_or, Bool.eq_false_iff]
    intro h
    obtain ⟨p, hp, h⟩ := List.any_eq_true.mp h
    rw [testBit_one_shl, decide_eq_true_iff] at h
    obtain ⟨h1, h2, _⟩ := mem_prs.mp hp
    have := ix_lt h2 h1
    omega
/-- the things that b is tied to, as a kind -/
def rowN (n t b : Nat) : Nat := (t >>> (b * n)) &&& (2 ^ n - 1)
theorem testBit_row {n b : Nat} (g : F) (hb : b < n) (j : Nat) : (rowN n (enc n g) b).testBit j = (decide (j < n) && g b j) := by
  unfold rowN
  rw [Nat.testBit_and, Nat.testBit_two_pow_sub_one, Nat.testBit_shiftRight]
  by_cases h : j < n
  · rw [enc_at g hb h]; simp [h]
  · simp [h]
theorem enc_join (n : Nat) (f g : F) : (prs n f).foldl (fun acc p => acc ||| rowN n (enc n g) p.2 <<< (p.1 * n)) 0 = enc n (joinF n f g) := by
  refine eq_enc (fun a b ha hb => ?_) fun k hk => ?_
  · rw [testBit_foldl_or (fun p : Nat × Nat => rowN n (enc n g) p.2 <<< (p.1 * n))]
    unfold joinF
    rw [Nat.zero_testBit, Bool.false_or, Bool.eq_iff_iff, List.any_eq_true, List.any_eq_true]
    constructor
    · rintro ⟨p, hp, h⟩
      obtain ⟨h1, h2, h3⟩ := mem_prs.mp hp
      rw [Nat.testBit_shiftLeft, testBit_row g h2] at h
      simp only [Bool.and_eq_true, decide_eq_true_eq] at h
      obtain ⟨h4, h5, h6⟩ := h
      have e : a = p.1 := by
        have q : a * n + b = p.1 * n + (a * n + b - p.1 * n) := by omega
        exact (ix_inj hb h5 q).1
      subst e
      have eb : p.1 * n + b - p.1 * n = b := by omega
      rw [eb] at h6
      exact ⟨p.2, List.mem_range.mpr h2, by rw [h3, h6]; rfl⟩
    · rintro ⟨c, hc, h⟩
      rw [Bool.and_eq_true] at h
      have hc' := List.mem_range.mp hc
      refine ⟨(a, c), mem_prs.mpr ⟨ha, hc', h.1⟩, ?_⟩
      show (rowN n (enc n g) c <<< (a * n)).testBit (a * n + b) = true
      rw [Nat.testBit_shiftLeft, testBit_row g hc']
      have eb : a * n + b - a * n = b := by omega
      rw [eb, h.2]
      simp [hb]
  · rw [testBit_foldl_or (fun p : Nat × Nat => rowN n (enc n g) p.2 <<< (p.1 * n)), Nat.zero_testBit, Bool.false_or, Bool.eq_false_iff]
    intro h
    obtain ⟨p, hp, h⟩ := List.any_eq_true.mp h
    obtain ⟨h1, h2, h3⟩ := mem_prs.mp hp
    rw [Nat.testBit_shiftLeft, testBit_row g h2] at h
    simp only [Bool.and_eq_true, decide_eq_true_eq] at h
    obtain ⟨h4, h5, _⟩ := h
    have q := ix_lt h1 h5
    omega
theorem enc_same (n : Nat) : ((List.range n).map fun a => (a, a)).foldl (fun acc (p : Nat × Nat) => acc ||| 1 <<< (p.1 * n + p.2)) 0 = enc n sameF := by
  refine eq_enc (fun a b ha hb => ?_) fun k hk => ?_
  · rw [testBit_foldl_or (fun p : Nat × Nat => 1 <<< (p.1 * n + p.2))]
    unfold sameF
    rw [Nat.zero_testBit, Bool.false_or, List.any_map, Bool.eq_iff_iff, List.any_eq_true, beq_iff_eq]
    constructor
    · rintro ⟨c, hc, h⟩
      have h : (1 <<< (c * n + c)).testBit (a * n + b) = true := h
      rw [testBit_one_shl, decide_eq_true_iff] at h
      obtain ⟨e1, e2⟩ := ix_inj hb (List.mem_range.mp hc) h
      omega
    · rintro rfl
      refine ⟨a, List.mem_range.mpr ha, ?_⟩
      show (1 <<< (a * n + a)).testBit (a * n + a) = true
      rw [testBit_one_shl]; simp
  · rw [testBit_foldl_or (fun p : Nat × Nat => 1 <<< (p.1 * n + p.2)), Nat.zero_testBit, Bool.false_or, Bool.eq_false_iff]
    intro h
    obtain ⟨p, hp, h⟩ := List.any_eq_true.mp h
    obtain ⟨c, hc, rfl⟩ := List.mem_map.mp hp
    have h : (1 <<< (c * n + c)).testBit k = true := h
    rw [testBit_one_shl, decide_eq_true_iff] at h
    have := ix_lt (List.mem_range.mp hc) (List.mem_range.mp hc)
    omega
theorem enc_kind (n k : Nat) : (List.range n).foldl (fun acc a => if k.testBit a = true then acc ||| 1 <<< (a * n + a) else acc) 0 = enc n (kindF k) := by
  have e : ∀ (l : List Nat) (z : Nat), l.foldl (fun acc a => if k.testBit a = true then acc ||| 1 <<< (a * n + a) else acc) z = (l.filter fun a => k.testBit a).foldl (fun acc a => acc ||| 1 <<< (a * n + a)) z := by
    intro l
    induction l with
    | nil => intro z; rfl
    | cons x r ih =>
      intro z
      rw [List.foldl_cons, List.filter_cons]
      by_cases h : k.testBit x = true
      · rw [if_pos h, if_pos h, List.foldl_cons, ih]
      · rw [if_neg h, if_neg h, ih]
  rw [e]
  refine eq_enc (fun a b ha hb => ?_) fun j hj => ?_
  · rw [testBit_foldl_or (fun a : Nat => 1 <<< (a * n + a))]
    unfold kindF
    rw [Nat.zero_testBit, Bool.false_or, Bool.eq_iff_iff, List.any_eq_true, Bool.and_eq_true, beq_iff_eq]
    constructor
    · rintro ⟨c, hc, h⟩
      rw [List.mem_filter] at hc
      rw [testBit_one_shl, decide_eq_true_iff] at h
      obtain ⟨e1, e2⟩ := ix_inj hb (List.mem_range.mp hc.1) h
      subst e1
      exact ⟨e2.symm, hc.2⟩
    · rintro ⟨rfl, h⟩
      refine ⟨a, List.mem_filter.mpr ⟨List.mem_range.mpr ha, h⟩, ?_⟩
      rw [testBit_one_shl]; simp
  · rw [testBit_foldl_or (fun a : Nat => 1 <<< (a * n + a)), Nat.zero_testBit, Bool.false_or, Bool.eq_false_iff]
    intro h
    obtain ⟨c, hc, h⟩ := List.any_eq_true.mp h
    rw [List.mem_filter] at hc
    rw [testBit_one_shl, decide_eq_true_iff] at h
    have := ix_lt (List.mem_range.mp hc.1) (List.mem_range.mp hc.1)
    omega

/-! ### closed up, twice -/
/-- the program's: so many steps -/
def stepF (n : Nat) (f h : F) : F := orF h (joinF n h f)
def stepsF (n : Nat) (f : F) : Nat → F
  | 0 => f
  | i + 1 => stepF n f (stepsF n f i)
def closedP (n : Nat) (f : F) : F := stepsF n f n
/-- the law's: thing by thing -/
def warS (k : Nat) (h : F) : F := fun a b => h a b || (h a k && h k b)
def warF (f : F) : Nat → F
  | 0 => f
  | m + 1 => warS m (warF f m)
def closedW (n : Nat) (f : F) : F := warF f n

theorem joinF_iff {n : Nat} {f g : F} {a b : Nat} : joinF n f g a b = true ↔ ∃ k, k < n ∧ f a k = true ∧ g k b = true := by
  unfold joinF
  rw [List.any_eq_true]
  constructor
  · rintro ⟨k, hk, h⟩
    rw [Bool.and_eq_true] at h
    exact ⟨k, List.mem_range.mp hk, h.1, h.2⟩
  · rintro ⟨k, hk, h1, h2⟩
    exact ⟨k, List.mem_range.mpr hk, by rw [h1, h2]; rfl⟩
theorem stepF_iff {n : Nat} {f h : F} {a b : Nat} : stepF n f h a b = true ↔ h a b = true ∨ ∃ k, k < n ∧ h a k = true ∧ f k b = true := by
  unfold stepF orF
  rw [Bool.or_eq_true, joinF_iff]
/-- from a to b along f, by things below n -/
inductive Pth (n : Nat) (f : F) (a : Nat) : Nat → Prop
  | one {b : Nat} : f a b = true → Pth n f a b
  | more {k b : Nat} : k < n → Pth n f a k → f k b = true → Pth n f a b
theorem Pth.trans {n : Nat} {f : F} {a k b : Nat} (hk : k < n) (h1 : Pth n f a k) (h2 : Pth n f k b) : Pth n f a b := by
  induction h2 with
  | one h => exact .more hk h1 h
  | more hj _ h ih => exact .more hj ih h
theorem steps_path {n : Nat} {f : F} : ∀ (i : Nat) {a b : Nat}, stepsF n f i a b = true → Pth n f a b
  | 0, a, b, h => .one h
  | i + 1, a, b, h => by
    rcases stepF_iff.mp h with h | ⟨k, hk, h1, h2⟩
    · exact steps_path i h
    · exact .more hk (steps_path i h1) h2
theorem war_path {n : Nat} {f : F} : ∀ (m : Nat), m ≤ n → ∀ {a b : Nat}, warF f m a b = true → Pth n f a b
  | 0, _, a, b, h => .one h
  | m + 1, hm, a, b, h => by
    have h : (warF f m a b || (warF f m a m && warF f m m b)) = true := h
    rw [Bool.or_eq_true, Bool.and_eq_true] at h
    rcases h with h | ⟨h1, h2⟩
    · exact war_path m (by omega) h
    · exact Pth.trans (by omega) (war_path m (by omega) h1) (war_path m (by omega) h2)
theorem war_sub {f : F} : ∀ (m : Nat) {a b : Nat}, f a b = true → warF f m a b = true
  | 0, _, _, h => h
  | m + 1, a, b, h => by
    show (warF f m a b || _) = true
    rw [war_sub m h]; rfl
theorem war_trans {f : F} : ∀ (m : Nat) {a k b : Nat}, k < m → warF f m a k = true → warF f m k b = true → warF f m a b = true
  | 0, _, _, _, h, _, _ => by omega
  | m + 1, a, k, b, hk, h1, h2 => by
    have h1 : (warF f m a k || (warF f m a m && warF f m m k)) = true := h1
    have h2 : (warF f m k b || (warF f m k m && warF f m m b)) = true := h2
    show (warF f m a b || (warF f m a m && warF f m m b)) = true
    simp only [Bool.or_eq_true, Bool.and_eq_true] at h1 h2 ⊢
    by_cases e : k = m
    · subst e
      have q1 : warF f k a k = true := by rcases h1 with h | ⟨h, _⟩ <;> exact h
      have q2 : warF f k k b = true := by rcases h2 with h | ⟨_, h⟩ <;> exact h
      exact .inr ⟨q1, q2⟩
    · have hk' : k < m := by omega
      rcases h1 with h1 | ⟨h1, h1'⟩ <;> rcases h2 with h2 | ⟨h2, h2'⟩
      · exact .inl (war_trans m hk' h1 h2)
      · exact .inr ⟨war_trans m hk' h1 h2, h2'⟩
      · exact .inr ⟨h1, war_trans m hk' h1' h2⟩
      · exact .inr ⟨h1, h2'⟩
theorem path_war {n : Nat} {f : F} {a b : Nat} (h : Pth n f a b) : closedW n f a b = true := by
  induction h with
  | one h => exact war_sub n h
  | more hk _ h ih => exact war_trans n hk ih (war_sub n h)
/-- how many below n -/
def cnt : Nat → (Nat → Bool) → Nat
  | 0, _ => 0
  | n + 1, p => cnt n p + (p n).toNat
theorem cnt_le : ∀ (n : Nat) (p : Nat → Bool), cnt n p ≤ n
  | 0, _ => Nat.le_refl 0
  | n + 1, p => by
    have := cnt_le n p
    unfold cnt
    cases p n <;> simp <;> omega
theorem cnt_mono : ∀ {n : Nat} {p q : Nat → Bool}, (∀ k, k < n → p k = true → q k = true) → cnt n p ≤ cnt n q
  | 0, _, _, _ => Nat.le_refl 0
  | n + 1, p, q, h => by
    have ih := cnt_mono (n := n) fun k hk => h k (by omega)
    have hn := h n (by omega)
    unfold cnt
    cases hp : p n with
    | false => simp; omega
    | true => rw [hn hp]; simp; omega
theorem cnt_eq : ∀ {n : Nat} {p q : Nat → Bool}, (∀ k, k < n → p k = q k) → cnt n p = cnt n q
  | 0, _, _, _ => rfl
  | n + 1, p, q, h => by
    unfold cnt
    rw [cnt_eq fun k hk => h k (by omega), h n (by omega)]
theorem cnt_lt : ∀ {n : Nat} {p q : Nat → Bool}, (∀ k, k < n → p k = true → q k = true) → (∃ k, k < n ∧ p k = false ∧ q k = true) → cnt n p < cnt n q
  | 0, _, _, _, ⟨k, hk, _⟩ => by omega
  | n + 1, p, q, h, ⟨k, hk, h1, h2⟩ => by
    have ih := cnt_mono (n := n) fun k hk => h k (by omega)
    have hn := h n (by omega)
    unfold cnt
    by_cases e : k = n
    · subst e
      rw [h1, h2]; simp; omega
    · have := cnt_lt (n := n) (fun k hk => h k (by omega)) ⟨k, by omega, h1, h2⟩
      cases hp : p n with
      | false => simp; omega
      | true => rw [hn hp]; simp; omega
theorem cnt_pos : ∀ {n : Nat} {p : Nat → Bool}, (∃ k, k < n ∧ p k = true) → 0 < cnt n p
  | 0, _, ⟨k, hk, _⟩ => by omega
  | n + 1, p, ⟨k, hk, h⟩ => by
    unfold cnt
    by_cases e : k = n
    · subst e; rw [h]; simp
    · have := cnt_pos (n := n) ⟨k, by omega, h⟩
      omega
theorem cnt_zero : ∀ {n : Nat} {p : Nat → Bool}, (∀ k, k < n → p k = false) → cnt n p = 0
  | 0, _, _ => rfl
  | n + 1, p, h => by
    unfold cnt
    rw [cnt_zero fun k hk => h k (by omega), h n (by omega)]; rfl
theorem steps_mono {n : Nat} {f : F} {i a b : Nat} (h : stepsF n f i a b = true) : stepsF n f (i + 1) a b = true := stepF_iff.mpr (.inl h)
theorem steps_row {n : Nat} {f : F} (a : Nat) : ∀ i : Nat, (∀ b, stepsF n f (i + 1) a b = stepsF n f i a b) ∨ i + 1 ≤ cnt n (stepsF n f i a)
  | 0 => by
    by_cases h : ∃ k, k < n ∧ f a k = true
    · exact .inr (cnt_pos h)
    · refine .inl fun b => ?_
      rw [Bool.eq_iff_iff]
      refine ⟨fun q => ?_, steps_mono⟩
      rcases stepF_iff.mp q with q | ⟨k, hk, q1, _⟩
      · exact q
      · exact absurd ⟨k, hk, q1⟩ h
  | i + 1 => by
    have again : (∀ k, k < n → stepsF n f (i + 1) a k = stepsF n f i a k) → ∀ b, stepsF n f (i + 1 + 1) a b = stepsF n f (i + 1) a b := fun st b => by
      rw [Bool.eq_iff_iff]
      refine ⟨fun q => ?_, steps_mono⟩
      rcases stepF_iff.mp q with q | ⟨k, hk, q1, q2⟩
      · exact q
      · rw [st k hk] at q1
        exact stepF_iff.mpr (.inr ⟨k, hk, q1, q2⟩)
    rcases steps_row a i with st | hc
    · exact .inl (again fun k _ => st k)
    · by_cases h : ∃ k, k < n ∧ stepsF n f i a k = false ∧ stepsF n f (i + 1) a k = true
      · have := cnt_lt (n := n) (p := stepsF n f i a) (q := stepsF n f (i + 1) a) (fun k _ q => steps_mono q) h
        exact .inr (by omega)
      · refine .inl (again fun k hk => ?_)
        cases h1 : stepsF n f i a k with
        | true => exact steps_mono h1
        | false =>
          cases h2 : stepsF n f (i + 1) a k with
          | false => rfl
          | true => exact absurd ⟨k, hk, h1, h2⟩ h
theorem path_steps {n : Nat} {f : F} {a b : Nat} (h : Pth n f a b) : closedP n f a b = true := by
  have st : ∀ b, stepsF n f (n + 1) a b = stepsF n f n a b := by
    rcases steps_row (n := n) (f := f) a n with st | hc
    · exact st
    · have := cnt_le n (stepsF n f n a)
      omega
  have sub : ∀ (i : Nat) {b : Nat}, f a b = true → stepsF n f i a b = true := fun i b h => by
    induction i with
    | zero => exact h
    | succ i ih => exact steps_mono ih
  induction h with
  | one h => exact sub n h
  | more hk _ h ih =>
    show stepsF n f n a _ = true
    rw [← st]
    exact stepF_iff.mpr (.inr ⟨_, hk, ih, h⟩)
theorem closed_eq (n : Nat) (f : F) : closedP n f = closedW n f := by
  funext a b
  rw [Bool.eq_iff_iff]
  exact ⟨fun h => path_war (steps_path n h), fun h => path_steps (war_path n (Nat.le_refl n) h)⟩
end Wf


namespace Wf
/-! ## Words, worlds, expressions, sayings -/
inductive Exp (α : Type) where
  | name (s : α) | same | all | none
  | plus (e f : Exp α) | less (e f : Exp α) | both (e f : Exp α) | joined (e f : Exp α)
  | turned (e : Exp α) | closed (e : Exp α)
inductive Say (α : Type) where
  | inn (e f : Exp α) | equal (e f : Exp α) | some (e : Exp α) | no (e : Exp α)
  | least (k : Nat) (e : Exp α) | most (k : Nat) (e : Exp α) | eachleast (k : Nat) (e : Exp α) | eachmost (k : Nat) (e : Exp α)
  | not (s : Say α) | and (s t : Say α) | or (s t : Say α)
structure Wd where
  n : Nat
  ks : List Nat
  ts : List Nat
section
variable {α : Type} [DecidableEq α]
/-- the place of a name -/
def at_ (x : α) : List α → Nat
  | [] => 0
  | y :: r => if y = x then 0 else at_ x r + 1
def namedF (kn tn : List α) (w : Wd) (s : α) : F :=
  if s ∈ kn then kindF (w.ks.getD (at_ s kn) 0) else bitF w.n (w.ts.getD (at_ s tn) 0)
/-- the law's reckoning -/
def val (kn tn : List α) (w : Wd) : Exp α → F
  | .name s => namedF kn tn w s
  | .same => sameF
  | .all => allF
  | .none => noF
  | .plus e f => orF (val kn tn w e) (val kn tn w f)
  | .less e f => lessF (val kn tn w e) (val kn tn w f)
  | .both e f => andF (val kn tn w e) (val kn tn w f)
  | .joined e f => joinF w.n (val kn tn w e) (val kn tn w f)
  | .turned e => turnF (val kn tn w e)
  | .closed e => closedW w.n (val kn tn w e)
/-- the program's: must, may -/
def bnd (kn tn : List α) (l h : Wd) : Exp α → F × F
  | .name s => (namedF kn tn l s, namedF kn tn h s)
  | .same => (sameF, sameF)
  | .all => (allF, allF)
  | .none => (noF, noF)
  | .plus e f => (orF (bnd kn tn l h e).1 (bnd kn tn l h f).1, orF (bnd kn tn l h e).2 (bnd kn tn l h f).2)
  | .less e f => (lessF (bnd kn tn l h e).1 (bnd kn tn l h f).2, lessF (bnd kn tn l h e).2 (bnd kn tn l h f).1)
  | .both e f => (andF (bnd kn tn l h e).1 (bnd kn tn l h f).1, andF (bnd kn tn l h e).2 (bnd kn tn l h f).2)
  | .joined e f => (joinF l.n (bnd kn tn l h e).1 (bnd kn tn l h f).1, joinF l.n (bnd kn tn l h e).2 (bnd kn tn l h f).2)
  | .turned e => (turnF (bnd kn tn l h e).1, turnF (bnd kn tn l h e).2)
  | .closed e => (closedP l.n (bnd kn tn l h e).1, closedP l.n (bnd kn tn l h e).2)

/-! ### a world within another -/
def leN (x y : Nat) : Prop := ∀ j, x.testBit j = true → y.testBit j = true
structure Le (w v : Wd) : Prop where
  n : w.n = v.n
  ks : ∀ i, leN (w.ks.getD i 0) (v.ks.getD i 0)
  ts : ∀ i, leN (w.ts.getD i 0) (v.ts.getD i 0)
def leF (f g : F) : Prop := ∀ a b, f a b = true → g a b = true
theorem named_le {kn tn : List α} {w v : Wd} (h : Le w v) (s : α) : leF (namedF kn tn w s) (namedF kn tn v s) := by
  intro a b
  unfold namedF
  split
  · unfold kindF
    rw [Bool.and_eq_true, Bool.and_eq_true]
    exact fun ⟨h1, h2⟩ => ⟨h1, h.ks _ _ h2⟩
  · unfold bitF
    rw [h.n]
    exact h.ts _ _
theorem or_le {f g f' g' : F} (h1 : leF f f') (h2 : leF g g') : leF (orF f g) (orF f' g') := fun a b => by
  unfold orF
  rw [Bool.or_eq_true, Bool.or_eq_true]
  exact Or.imp (h1 a b) (h2 a b)
theorem and_le {f g f' g' : F} (h1 : leF f f') (h2 : leF g g') : leF (andF f g) (andF f' g') := fun a b => by
  unfold andF
  rw [Bool.and_eq_true, Bool.and_eq_true]
  exact And.imp (h1 a b) (h2 a b)
theorem less_le {f g f' g' : F} (h1 : leF f f') (h2 : leF g' g) : leF (lessF f g) (lessF f' g') := fun a b => by
  unfold lessF
  rw [Bool.and_eq_true, Bool.and_eq_true]
  refine And.imp (h1 a b) fun q => ?_
  cases e : g' a b with
  | false => rfl
  | true => rw [h2 a b e] at q; exact q
theorem turn_le {f f' : F} (h : leF f f') : leF (turnF f) (turnF f') := fun a b => h b a
theorem join_le {n : Nat} {f g f' g' : F} (h1 : leF f f') (h2 : leF g g') : leF (joinF n f g) (joinF n f' g') := fun a b h => by
  obtain ⟨k, hk, q1, q2⟩ := joinF_iff.mp h
  exact joinF_iff.mpr ⟨k, hk, h1 _ _ q1, h2 _ _ q2⟩
theorem steps_le {n : Nat} {f f' : F} (h : leF f f') : ∀ i, leF (stepsF n f i) (stepsF n f' i)
  | 0 => h
  | i + 1 => or_le (steps_le h i) (join_le (steps_le h i) h)
theorem closed_le {n : Nat} {f f' : F} (h : leF f f') : leF (closedP n f) (closedP n f') := steps_le h n
theorem leF.refl (f : F) : leF f f := fun _ _ h => h
/-- 13: in each world that lies between, the value has all pairs of must and none but those of may -/
theorem bnd_ok (kn tn : List α) {l w h : Wd} (h1 : Le l w) (h2 : Le w h) : ∀ e : Exp α, leF (bnd kn tn l h e).1 (val kn tn w e) ∧ leF (val kn tn w e) (bnd kn tn l h e).2
  | .name s => ⟨named_le h1 s, named_le h2 s⟩
  | .same => ⟨.refl _, .refl _⟩
  | .all => ⟨.refl _, .refl _⟩
  | .none => ⟨.refl _, .refl _⟩
  | .plus e f => ⟨or_le (bnd_ok kn tn h1 h2 e).1 (bnd_ok kn tn h1 h2 f).1, or_le (bnd_ok kn tn h1 h2 e).2 (bnd_ok kn tn h1 h2 f).2⟩
  | .less e f => ⟨less_le (bnd_ok kn tn h1 h2 e).1 (bnd_ok kn tn h1 h2 f).2, less_le (bnd_ok kn tn h1 h2 e).2 (bnd_ok kn tn h1 h2 f).1⟩
  | .both e f => ⟨and_le (bnd_ok kn tn h1 h2 e).1 (bnd_ok kn tn h1 h2 f).1, and_le (bnd_ok kn tn h1 h2 e).2 (bnd_ok kn tn h1 h2 f).2⟩
  | .joined e f => by
    unfold bnd val
    rw [← h1.n]
    exact ⟨join_le (bnd_ok kn tn h1 h2 e).1 (bnd_ok kn tn h1 h2 f).1, join_le (bnd_ok kn tn h1 h2 e).2 (bnd_ok kn tn h1 h2 f).2⟩
  | .turned e => ⟨turn_le (bnd_ok kn tn h1 h2 e).1, turn_le (bnd_ok kn tn h1 h2 e).2⟩
  | .closed e => by
    unfold bnd val
    rw [← h1.n, ← closed_eq]
    exact ⟨closed_le (bnd_ok kn tn h1 h2 e).1, closed_le (bnd_ok kn tn h1 h2 e).2⟩
/-- with this world alone known must and may are the value -/
theorem bnd_self (kn tn : List α) (w : Wd) : ∀ e : Exp α, bnd kn tn w w e = (val kn tn w e, val kn tn w e)
  | .name s => rfl
  | .same => rfl
  | .all => rfl
  | .none => rfl
  | .plus e f => by unfold bnd val; rw [bnd_self kn tn w e, bnd_self kn tn w f]
  | .less e f => by unfold bnd val; rw [bnd_self kn tn w e, bnd_self kn tn w f]
  | .both e f => by unfold bnd val; rw [bnd_self kn tn w e, bnd_self kn tn w f]
  | .joined e f => by unfold bnd val; rw [bnd_self kn tn w e, bnd_self kn tn w f]
  | .turned e => by unfold bnd val; rw [bnd_self kn tn w e]
  | .closed e => by unfold bnd val; rw [bnd_self kn tn w e, closed_eq]

/-! ## what is told -/
/-- all pairs of f are of g -/
def sub (n : Nat) (f g : F) : Bool := (List.range n).all fun a => (List.range n).all fun b => !f a b || g a b
theorem sub_iff {n : Nat} {f g : F} : sub n f g = true ↔ ∀ a b, a < n → b < n → f a b = true → g a b = true := by
  unfold sub
  simp only [List.all_eq_true, List.mem_range, Bool.or_eq_true, Bool.not_eq_true']
  constructor
  · intro h a b ha hb hf
    rcases h a ha b hb with q | q
    · rw [hf] at q; cases q
    · exact q
  · intro h a ha b hb
    cases e : f a b with
    | false => exact .inl rfl
    | true => exact .inr (h a b ha hb e)
/-- to how many each is tied -/
def nums (n : Nat) (f : F) : List Nat := (List.range n).map fun a => cnt n (f a)
def oIn (n : Nat) (x y : F × F) : Option Bool := if sub n x.2 y.1 = true then some true else if sub n x.1 y.2 = true then none else some false
def oBoth (x y : Option Bool) : Option Bool := if x = some false ∨ y = some false then some false else if x = none ∨ y = none then none else some true
def oNot (x : Option Bool) : Option Bool := x.map (!·)
def oLeast (low high : List Nat) (k : Nat) : Option Bool := if low.all (fun x => decide (k ≤ x)) = true then some true else if high.any (fun x => decide (x < k)) = true then some false else none
def oMost (low high : List Nat) (k : Nat) : Option Bool := if high.all (fun x => decide (x ≤ k)) = true then some true else if low.any (fun x => decide (k < x)) = true then some false else none
def tell (kn tn : List α) (l h : Wd) : Say α → Option Bool
  | .inn e f => oIn l.n (bnd kn tn l h e) (bnd kn tn l h f)
  | .equal e f => oBoth (oIn l.n (bnd kn tn l h e) (bnd kn tn l h f)) (oIn l.n (bnd kn tn l h f) (bnd kn tn l h e))
  | .some e => oLeast [(nums l.n (bnd kn tn l h e).1).sum] [(nums l.n (bnd kn tn l h e).2).sum] 1
  | .no e => oMost [(nums l.n (bnd kn tn l h e).1).sum] [(nums l.n (bnd kn tn l h e).2).sum] 0
  | .least k e => oLeast [(nums l.n (bnd kn tn l h e).1).sum] [(nums l.n (bnd kn tn l h e).2).sum] k
  | .most k e => oMost [(nums l.n (bnd kn tn l h e).1).sum] [(nums l.n (bnd kn tn l h e).2).sum] k
  | .eachleast k e => oLeast (nums l.n (bnd kn tn l h e).1) (nums l.n (bnd kn tn l h e).2) k
  | .eachmost k e => oMost (nums l.n (bnd kn tn l h e).1) (nums l.n (bnd kn tn l h e).2) k
  | .not s => oNot (tell kn tn l h s)
  | .and s t => oBoth (tell kn tn l h s) (tell kn tn l h t)
  | .or s t => oNot (oBoth (oNot (tell kn tn l h s)) (oNot (tell kn tn l h t)))
/-- the law's: kept or broken -/
def kept (kn tn : List α) (w : Wd) : Say α → Bool
  | .inn e f => sub w.n (val kn tn w e) (val kn tn w f)
  | .equal e f => sub w.n (val kn tn w e) (val kn tn w f) && sub w.n (val kn tn w f) (val kn tn w e)
  | .some e => decide (0 < (nums w.n (val kn tn w e)).sum)
  | .no e => !decide (0 < (nums w.n (val kn tn w e)).sum)
  | .least k e => decide (k ≤ (nums w.n (val kn tn w e)).sum)
  | .most k e => decide ((nums w.n (val kn tn w e)).sum ≤ k)
  | .eachleast k e => (nums w.n (val kn tn w e)).all fun x => decide (k ≤ x)
  | .eachmost k e => (nums w.n (val kn tn w e)).all fun x => decide (x ≤ k)
  | .not s => !kept kn tn w s
  | .and s t => kept kn tn w s && kept kn tn w t
  | .or s t => kept kn tn w s || kept kn tn w t

/-- what is told in a part-known world is so of a value b: told True: b; told False: not b -/
def So (x : Option Bool) (b : Bool) : Prop := ∀ c, x = some c → b = c
theorem So.none (b : Bool) : So Option.none b := fun _ h => nomatch h
theorem So.some {b c : Bool} (h : b = c) : So (some c) b := fun _ q => h.trans (Option.some.inj q)
theorem so_not {x : Option Bool} {b : Bool} (h : So x b) : So (oNot x) (!b) := fun c q => by
  cases x with
  | none => cases q
  | some d =>
    have := Option.some.inj q
    rw [h d rfl, ← this]
theorem so_both {x y : Option Bool} {b c : Bool} (h1 : So x b) (h2 : So y c) : So (oBoth x y) (b && c) := by
  unfold oBoth
  split
  · rename_i h
    refine So.some ?_
    rcases h with h | h
    · rw [h1 _ h]; rfl
    · rw [h2 _ h, Bool.and_false]
  · split
    · exact So.none _
    · rename_i h h'
      refine So.some ?_
      cases x with
      | none => exact absurd (.inl rfl) h'
      | some d =>
        cases y with
        | none => exact absurd (.inr rfl) h'
        | some d' =>
          cases d with
          | false => exact absurd (.inl rfl) h
          | true =>
            cases d' with
            | false => exact absurd (.inr rfl) h
            | true => rw [h1 _ rfl, h2 _ rfl]; rfl
theorem so_in {n : Nat} {x y : F × F} {f g : F} (hx1 : leF x.1 f) (hx2 : leF f x.2) (hy1 : leF y.1 g) (hy2 : leF g y.2) : So (oIn n x y) (sub n f g) := by
  unfold oIn
  split
  · rename_i h
    refine So.some (sub_iff.mpr fun a b ha hb hf => hy1 _ _ (sub_iff.mp h a b ha hb (hx2 _ _ hf)))
  · split
    · exact So.none _
    · rename_i h
      refine So.some (Bool.eq_false_iff.mpr fun q => h (sub_iff.mpr fun a b ha hb hf => hy2 _ _ (sub_iff.mp q a b ha hb (hx1 _ _ hf))))
theorem nums_le {n : Nat} {f g : F} (h : leF f g) : ∀ a, cnt n (f a) ≤ cnt n (g a) := fun a => cnt_mono fun k _ => h a k
/-- a row of counts below another -/
def leL (xs ys : List Nat) : Prop := ∀ i : Nat, (xs[i]? = Option.none ↔ ys[i]? = Option.none) ∧ ∀ x y, xs[i]? = Option.some x → ys[i]? = Option.some y → x ≤ y
theorem nums_get (n : Nat) (f : F) (i : Nat) : (nums n f)[i]? = if i < n then Option.some (cnt n (f i)) else Option.none := by
  unfold nums
  rw [List.getElem?_map]
  by_cases h : i < n
  · rw [List.getElem?_range h, if_pos h]; rfl
  · rw [List.getElem?_eq_none (by rw [List.length_range]; omega), if_neg h]; rfl
theorem nums_leL {n : Nat} {f g : F} (h : leF f g) : leL (nums n f) (nums n g) := fun i => by
  rw [nums_get, nums_get]
  split
  · exact ⟨Iff.intro (fun q => (nomatch q)) (fun q => (nomatch q)), fun x y hx hy => by rw [← Option.some.inj hx, ← Option.some.inj hy]; exact nums_le h i⟩
  · exact ⟨Iff.rfl, fun _ _ q => nomatch q⟩
theorem sum_le : ∀ {xs ys : List Nat}, leL xs ys → xs.sum ≤ ys.sum
  | [], _, _ => Nat.zero_le _
  | x :: r, [], h => by
    have := (h 0).1.mpr rfl
    cases this
  | x :: r, y :: s, h => by
    rw [List.sum_cons, List.sum_cons]
    have h0 := (h 0).2 x y rfl rfl
    have hr := sum_le (xs := r) (ys := s) fun i => h (i + 1)
    omega
theorem leL_one {x y : Nat} (h : x ≤ y) : leL [x] [y] := fun i => by
  cases i with
  | zero => exact ⟨Iff.intro (fun q => (nomatch q)) (fun q => (nomatch q)), fun a b ha hb => by rw [← Option.some.inj ha, ← Option.some.inj hb]; exact h⟩
  | succ i => exact ⟨Iff.rfl, fun _ _ q => nomatch q⟩
theorem so_least {low mid high : List Nat} {k : Nat} (h1 : leL low mid) (h2 : leL mid high) : So (oLeast low high k) (mid.all fun x => decide (k ≤ x)) := by
  unfold oLeast
  split
  · rename_i h
    refine So.some (List.all_eq_true.mpr fun x hx => ?_)
    obtain ⟨i, hi⟩ := List.getElem?_of_mem hx
    cases e : low[i]? with
    | none => rw [(h1 i).1.mp e] at hi; cases hi
    | some y =>
      have q := List.all_eq_true.mp h y (List.mem_of_getElem? e)
      have := (h1 i).2 y x e hi
      rw [decide_eq_true_iff] at q ⊢
      omega
  · split
    · rename_i h
      refine So.some (Bool.eq_false_iff.mpr fun q => ?_)
      obtain ⟨y, hy, hk⟩ := List.any_eq_true.mp h
      obtain ⟨i, hi⟩ := List.getElem?_of_mem hy
      cases e : mid[i]? with
      | none => rw [(h2 i).1.mp e] at hi; cases hi
      | some x =>
        have q' := List.all_eq_true.mp q x (List.mem_of_getElem? e)
        have := (h2 i).2 x y e hi
        rw [decide_eq_true_iff] at q' hk
        omega
    · exact So.none _
theorem so_most {low mid high : List Nat} {k : Nat} (h1 : leL low mid) (h2 : leL mid high) : So (oMost low high k) (mid.all fun x => decide (x ≤ k)) := by
  unfold oMost
  split
  · rename_i h
    refine So.some (List.all_eq_true.mpr fun x hx => ?_)
    obtain ⟨i, hi⟩ := List.getElem?_of_mem hx
    cases e : high[i]? with
    | none => rw [(h2 i).1.mpr e] at hi; cases hi
    | some y =>
      have q := List.all_eq_true.mp h y (List.mem_of_getElem? e)
      have := (h2 i).2 x y hi e
      rw [decide_eq_true_iff] at q ⊢
      omega
  · split
    · rename_i h
      refine So.some (Bool.eq_false_iff.mpr fun q => ?_)
      obtain ⟨y, hy, hk⟩ := List.any_eq_true.mp h
      obtain ⟨i, hi⟩ := List.getElem?_of_mem hy
      cases e : mid[i]? with
      | none => rw [(h1 i).1.mpr e] at hi; cases hi
      | some x =>
        have q' := List.all_eq_true.mp q x (List.mem_of_getElem? e)
        have := (h1 i).2 y x hi e
        rw [decide_eq_true_iff] at q' hk
        omega
    · exact So.none _
theorem all_one (p : Nat → Bool) (x : Nat) : [x].all p = p x := by simp
/-- 14: what is told True is kept by each world that lies between, what is told False by none -/
theorem tell_ok (kn tn : List α) {l w h : Wd} (h1 : Le l w) (h2 : Le w h) : ∀ s : Say α, So (tell kn tn l h s) (kept kn tn w s)
  | .inn e f => by
    have q1 := bnd_ok kn tn h1 h2 e
    have q2 := bnd_ok kn tn h1 h2 f
    unfold tell kept
    rw [← h1.n]
    exact so_in q1.1 q1.2 q2.1 q2.2
  | .equal e f => by
    have q1 := bnd_ok kn tn h1 h2 e
    have q2 := bnd_ok kn tn h1 h2 f
    unfold tell kept
    rw [← h1.n]
    exact so_both (so_in q1.1 q1.2 q2.1 q2.2) (so_in q2.1 q2.2 q1.1 q1.2)
  | .some e => by
    have q := bnd_ok kn tn h1 h2 e
    unfold tell kept
    rw [← h1.n]
    have r := so_least (k := 1) (leL_one (sum_le (nums_leL (n := l.n) q.1))) (leL_one (sum_le (nums_leL (n := l.n) q.2)))
    rw [all_one] at r
    exact r
  | .no e => by
    have q := bnd_ok kn tn h1 h2 e
    unfold tell kept
    rw [← h1.n]
    have r := so_most (k := 0) (leL_one (sum_le (nums_leL (n := l.n) q.1))) (leL_one (sum_le (nums_leL (n := l.n) q.2)))
    rw [all_one] at r
    rw [← decide_not]
    simp only [Nat.not_lt]
    exact r
  | .least k e => by
    have q := bnd_ok kn tn h1 h2 e
    unfold tell kept
    rw [← h1.n]
    have r := so_least (k := k) (leL_one (sum_le (nums_leL (n := l.n) q.1))) (leL_one (sum_le (nums_leL (n := l.n) q.2)))
    rw [all_one] at r
    exact r
  | .most k e => by
    have q := bnd_ok kn tn h1 h2 e
    unfold tell kept
    rw [← h1.n]
    have r := so_most (k := k) (leL_one (sum_le (nums_leL (n := l.n) q.1))) (leL_one (sum_le (nums_leL (n := l.n) q.2)))
    rw [all_one] at r
    exact r
  | .eachleast k e => by
    have q := bnd_ok kn tn h1 h2 e
    unfold tell kept
    rw [← h1.n]
    exact so_least (nums_leL q.1) (nums_leL q.2)
  | .eachmost k e => by
    have q := bnd_ok kn tn h1 h2 e
    unfold tell kept
    rw [← h1.n]
    exact so_most (nums_leL q.1) (nums_leL q.2)
  | .not s => so_not (tell_ok kn tn h1 h2 s)
  | .and s t => so_both (tell_ok kn tn h1 h2 s) (tell_ok kn tn h1 h2 t)
  | .or s t => by
    have r := so_not (so_both (so_not (tell_ok kn tn h1 h2 s)) (so_not (tell_ok kn tn h1 h2 t)))
    rw [Bool.not_and, Bool.not_not, Bool.not_not] at r
    exact r
/-- with this world alone known something is told -/
theorem in_some {n : Nat} {f g : F} : (oIn n (f, f) (g, g)).isSome = true := by
  unfold oIn
  by_cases h : sub n f g = true
  · rw [if_pos h]; rfl
  · rw [if_neg h, if_neg h]; rfl
theorem both_some {x y : Option Bool} (h1 : x.isSome = true) (h2 : y.isSome = true) : (oBoth x y).isSome = true := by
  unfold oBoth
  cases x with
  | none => cases h1
  | some a =>
    cases y with
    | none => cases h2
    | some b => split <;> rfl
theorem not_some {x : Option Bool} (h : x.isSome = true) : (oNot x).isSome = true := by
  cases x with
  | none => cases h
  | some a => rfl
theorem least_some {xs : List Nat} {k : Nat} : (oLeast xs xs k).isSome = true := by
  unfold oLeast
  split
  · rfl
  · rename_i h
    rw [if_pos]
    · rfl
    · rw [List.all_eq_true] at h
      have h : ∃ x, x ∈ xs ∧ ¬ decide (k ≤ x) = true := by
        refine Classical.byContradiction fun q => h fun x hx => Classical.byContradiction fun z => q ⟨x, hx, z⟩
      obtain ⟨x, hx, hk⟩ := h
      rw [decide_eq_true_iff] at hk
      exact List.any_eq_true.mpr ⟨x, hx, by rw [decide_eq_true_iff]; omega⟩
theorem most_some {xs : List Nat} {k : Nat} : (oMost xs xs k).isSome = true := by
  unfold oMost
  split
  · rfl
  · rename_i h
    rw [if_pos]
    · rfl
    · rw [List.all_eq_true] at h
      have h : ∃ x, x ∈ xs ∧ ¬ decide (x ≤ k) = true := by
        refine Classical.byContradiction fun q => h fun x hx => Classical.byContradiction fun z => q ⟨x, hx, z⟩
      obtain ⟨x, hx, hk⟩ := h
      rw [decide_eq_true_iff] at hk
      exact List.any_eq_true.mpr ⟨x, hx, by rw [decide_eq_true_iff]; omega⟩
theorem tell_some (kn tn : List α) (w : Wd) : ∀ s : Say α, (tell kn tn w w s).isSome = true
  | .inn e f => by unfold tell; rw [bnd_self, bnd_self]; exact in_some
  | .equal e f => by unfold tell; rw [bnd_self, bnd_self]; exact both_some in_some in_some
  | .some e => by unfold tell; rw [bnd_self]; exact least_some
  | .no e => by unfold tell; rw [bnd_self]; exact most_some
  | .least k e => by unfold tell; rw [bnd_self]; exact least_some
  | .most k e => by unfold tell; rw [bnd_self]; exact most_some
  | .eachleast k e => by unfold tell; rw [bnd_self]; exact least_some
  | .eachmost k e => by unfold tell; rw [bnd_self]; exact most_some
  | .not s => not_some (tell_some kn tn w s)
  | .and s t => both_some (tell_some kn tn w s) (tell_some kn tn w t)
  | .or s t => not_some (both_some (not_some (tell_some kn tn w s)) (not_some (tell_some kn tn w t)))
theorem Le.refl (w : Wd) : Le w w := ⟨rfl, fun _ _ h => h, fun _ _ h => h⟩
theorem Le.trans {w v u : Wd} (a : Le w v) (b : Le v u) : Le w u := ⟨a.n.trans b.n, fun i j h => b.ks i j (a.ks i j h), fun i j h => b.ts i j (a.ts i j h)⟩
theorem tell_self (kn tn : List α) (w : Wd) (s : Say α) : tell kn tn w w s = Option.some (kept kn tn w s) := by
  cases e : tell kn tn w w s with
  | none =>
    have := tell_some kn tn w s
    rw [e] at this
    cases this
  | some c => rw [tell_ok kn tn (.refl w) (.refl w) s c e]
end

/-! ## the worlds between: one bit put -/
/-- a spot: of which sort (true: a kind), the how many-th, which bit -/
structure Spot where
  kind : Bool
  k : Nat
  j : Nat
def putN (x j : Nat) (b : Bool) : Nat := (x ||| 2 ^ j) - (if b then 0 else 2 ^ j)
theorem testBit_put (x j : Nat) (b : Bool) (i : Nat) : (putN x j b).testBit i = if i = j then b else x.testBit i := by
  unfold putN
  cases b with
  | true =>
    simp only [if_true, Nat.sub_zero]
    rw [Nat.testBit_or, Nat.testBit_two_pow]
    by_cases h : i = j
    · subst h; simp
    · have : ¬ j = i := fun e => h e.symm
      simp [h, this]
  | false =>
    simp only [Bool.false_eq_true, if_false]
    have e : (x ||| 2 ^ j) - 2 ^ j = (x ||| 2 ^ j) ^^^ 2 ^ j := by
      have hs : (x ||| 2 ^ j) = ((x ||| 2 ^ j) ^^^ 2 ^ j) + 2 ^ j := by
        have hd : ((x ||| 2 ^ j) ^^^ 2 ^ j).testBit j = false := by
          rw [Nat.testBit_xor, Nat.testBit_or, Nat.testBit_two_pow]; simp
        generalize hy : ((x ||| 2 ^ j) ^^^ 2 ^ j) = y at hd
        have hx : (x ||| 2 ^ j) = y ^^^ 2 ^ j := by rw [← hy, Nat.xor_assoc, Nat.xor_self, Nat.xor_zero]
        rw [hx]
        apply Nat.eq_of_testBit_eq
        intro i
        rw [Nat.testBit_xor, Nat.testBit_two_pow, Nat.add_comm]
        rcases Nat.lt_trichotomy i j with h | h | h
        · rw [Nat.testBit_two_pow_add_gt h]
          have : ¬ j = i := by omega
          simp [this]
        · subst h
          rw [Nat.testBit_two_pow_add_eq]
          simp [hd]
        · have h1 : ¬ j = i := by omega
          simp only [h1, decide_false, Bool.xor_false]
          -- above j: split y
          have hy' : y = 2 ^ (j + 1) * (y / 2 ^ (j + 1)) + y % 2 ^ (j + 1) := (Nat.div_add_mod _ _).symm
          have hlow : y % 2 ^ (j + 1) < 2 ^ j := by
            have : (y % 2 ^ (j + 1)).testBit j = false := by
              rw [Nat.testBit_mod_two_pow]; simp [hd]
            refine Nat.lt_pow_two_of_testBit _ fun i hi => ?_
            by_cases e : i = j
            · rw [e]; exact this
            · rw [Nat.testBit_mod_two_pow]
              have : ¬ i < j + 1 := by omega
              simp [this]
          have hlow2 : 2 ^ j + y % 2 ^ (j + 1) < 2 ^ (j + 1) := by
            have h2 : 2 ^ (j + 1) = 2 ^ j + 2 ^ j := by rw [Nat.pow_succ]; omega
            omega
          have hlow3 : y % 2 ^ (j + 1) < 2 ^ (j + 1) := Nat.mod_lt _ (Nat.two_pow_pos _)
          have e2 : 2 ^ j + y = 2 ^ (j + 1) * (y / 2 ^ (j + 1)) + (2 ^ j + y % 2 ^ (j + 1)) := by omega
          rw [e2]
          conv => lhs; rw [hy']
          rw [Nat.testBit_two_pow_mul_add _ hlow3, Nat.testBit_two_pow_mul_add _ hlow2]
          have h3 : ¬ i < j + 1 := by omega
          simp [h3]
      omega
    rw [e, Nat.testBit_xor, Nat.testBit_or, Nat.testBit_two_pow]
    by_cases h : i = j
    · subst h; simp
    · have : ¬ j = i := fun e => h e.symm
      simp [h, this]
def put (w : Wd) (s : Spot) (b : Bool) : Wd := if s.kind then { w with ks := w.ks.set s.k (putN (w.ks.getD s.k 0) s.j b) } else { w with ts := w.ts.set s.k (putN (w.ts.getD s.k 0) s.j b) }
theorem getD_set (l : List Nat) (k i x : Nat) : (l.set k x).getD i 0 = if i = k ∧ k < l.length then x else l.getD i 0 := by
  rw [List.getD_eq_getElem?_getD, List.getD_eq_getElem?_getD]
  by_cases h : i = k
  · subst h
    by_cases hl : i < l.length
    · rw [List.getElem?_set_self hl, if_pos ⟨rfl, hl⟩]; rfl
    · rw [if_neg (fun q => hl q.2), List.getElem?_eq_none (by rw [List.length_set]; omega), List.getElem?_eq_none (by omega)]
  · rw [List.getElem?_set_ne (fun e => h e.symm), if_neg (fun q => h q.1)]
theorem put_le1 {l l' : List Nat} {k j : Nat} {b c : Bool} (hl : l.length = l'.length) (h : ∀ i, leN (l.getD i 0) (l'.getD i 0)) (hb : b = true → c = true) :
    ∀ i, leN ((l.set k (putN (l.getD k 0) j b)).getD i 0) ((l'.set k (putN (l'.getD k 0) j c)).getD i 0) := fun i => by
  rw [getD_set, getD_set, hl]
  by_cases hi : i = k ∧ k < l'.length
  · rw [if_pos hi, if_pos hi]
    intro m
    rw [testBit_put, testBit_put]
    split
    · exact hb
    · exact h k m
  · rw [if_neg hi, if_neg hi]
    exact h i
/-- worlds of one shape -/
structure Alike (w v : Wd) : Prop where
  n : w.n = v.n
  ks : w.ks.length = v.ks.length
  ts : w.ts.length = v.ts.length
theorem put_alike {w v : Wd} (a : Alike w v) (s : Spot) (b c : Bool) : Alike (put w s b) (put v s c) := by
  unfold put
  split
  · exact ⟨a.n, by simp only [List.length_set]; exact a.ks, a.ts⟩
  · exact ⟨a.n, a.ks, by simp only [List.length_set]; exact a.ts⟩
theorem put_le {w v : Wd} (a : Alike w v) (h : Le w v) (s : Spot) {b c : Bool} (hb : b = true → c = true) : Le (put w s b) (put v s c) := by
  unfold put
  split
  · exact ⟨h.n, put_le1 a.ks h.ks hb, h.ts⟩
  · exact ⟨h.n, h.ks, put_le1 a.ts h.ts hb⟩
/-- all the worlds between -/
def btw : List Wd → List Spot → List Wd
  | ws, [] => ws
  | ws, s :: r => btw (ws.map (put · s false) ++ ws.map (put · s true)) r
/-- of a list of worlds: the first lies within each, each within the last -/
structure Row (ws : List Wd) (lo hi : Wd) : Prop where
  fst : ws.head? = some lo
  lst : ws.getLast? = some hi
  mem : ∀ w, w ∈ ws → Alike lo w ∧ Alike w hi ∧ Le lo w ∧ Le w hi
theorem Row.one (w : Wd) : Row [w] w w := ⟨rfl, rfl, fun v hv => by
  rw [List.mem_singleton] at hv
  subst hv
  exact ⟨⟨rfl, rfl, rfl⟩, ⟨rfl, rfl, rfl⟩, .refl _, .refl _⟩⟩
theorem Row.next {ws : List Wd} {lo hi : Wd} (r : Row ws lo hi) (s : Spot) : Row (ws.map (put · s false) ++ ws.map (put · s true)) (put lo s false) (put hi s true) := by
  refine ⟨?_, ?_, fun v hv => ?_⟩
  · cases ws with
    | nil => cases r.fst
    | cons x t =>
      have : x = lo := Option.some.inj r.fst
      subst this; rfl
  · rw [List.getLast?_append, List.getLast?_map, r.lst]; rfl
  · have ht : ∀ b : Bool, false = true → b = true := fun _ h => nomatch h
    rcases List.mem_append.mp hv with h | h
    · obtain ⟨u, hu, rfl⟩ := List.mem_map.mp h
      obtain ⟨a1, a2, l1, l2⟩ := r.mem u hu
      exact ⟨put_alike a1 s _ _, put_alike a2 s _ _, put_le a1 l1 s (ht _), put_le a2 l2 s (ht _)⟩
    · obtain ⟨u, hu, rfl⟩ := List.mem_map.mp h
      obtain ⟨a1, a2, l1, l2⟩ := r.mem u hu
      exact ⟨put_alike a1 s _ _, put_alike a2 s _ _, put_le a1 l1 s (ht _), put_le a2 l2 s id⟩
theorem btw_row : ∀ (ss : List Spot) {ws : List Wd} {lo hi : Wd}, Row ws lo hi → ∃ lo' hi', Row (btw ws ss) lo' hi'
  | [], _, _, _, r => ⟨_, _, r⟩
  | s :: ss, _, _, _, r => btw_row ss (r.next s)
end Wf


/-! Readings over plain data: what a value is, in a part F of the heap that nobody changes. -/
namespace Wf
open PySem PySem.Spec PyProof.Rows L2

/-! ### the drawing purse: a list of three ints that nobody looks into but one def -/
def pOk (x k : Int) : Prop := k = 1 ∨ (0 ≤ x ∧ x < 4294967296)
def pF (a : Addr) : Heap → Prop := fun h => ∃ (x k y : Int) (its : List Value) (n : Nat), pOk x k ∧ Vals [.int x, .int k, .int y] its ∧ h.get? a = some { cls := .type "list", data := .seq its.toArray n }
theorem pF_ok {P : Program} {w : World} {H : Hp} {h : Heap} {a : Addr} (q : pF a h) : ObjOk P w H h a (.ext (pF a)) := by
  obtain ⟨x, k, y, its, n, ok, r, e⟩ := id q
  exact ⟨q, ⟨_, e⟩, fun h1 h2 ⟨x, k, y, its, n, ok, r, e⟩ keep => ⟨x, k, y, its, n, ok, r, keep _ e⟩⟩
abbrev purseD : PyData := .dict []
abbrev scriptD (ds : List PyData) : PyData := .dict [(.none, .list ds)]
abbrev namesD (ds : List PyData) : PyData := .dict [(.bool true, .list ds)]

mutual
inductive Dn (K : PySem.W.Frag) (F : Hp) : V → PyData → Prop
  | non : Dn K F .non .none
  | bl (b : Bool) : Dn K F (.bl b) (.bool b)
  | int (i : Int) : Dn K F (.int i) (.int i)
  | str (x : Str) : Dn K F (.str x) (.str x)
  | lst {a : Addr} {xs : List V} {ds : List PyData} : F a = some (.lst xs) → DnAll K F xs ds → Dn K F (.ref a) (.list ds)
  | tup {a : Addr} {xs : List V} {ds : List PyData} : SqT K F a xs → DnAll K F xs ds → Dn K F (.ref a) (.tuple ds)
  | purse {a : Addr} : F a = some (.ext (pF a)) → Dn K F (.ref a) (.dict [])
  | script {a : Addr} {ns : List Int} {ds : List PyData} : SqL K F a (ns.map V.int) → ds = ns.map PyData.int → Dn K F (.ref a) (.dict [(.none, .list ds)])
  | names {a : Addr} {o : Obj} {xs : List Str} {ds : List PyData} : F a = some (.frz o (.tup (xs.map V.str))) → o.dict = none → ds = xs.map PyData.str → Dn K F (.ref a) (.dict [(.bool true, .list ds)])
inductive DnAll (K : PySem.W.Frag) (F : Hp) : List V → List PyData → Prop
  | nil : DnAll K F [] []
  | cons {v : V} {vs : List V} {d : PyData} {ds : List PyData} : Dn K F v d → DnAll K F vs ds → DnAll K F (v :: vs) (d :: ds)
end
section
variable {K : PySem.W.Frag} {F F' H H' : Hp}
theorem same_rd (e : Same F F') {a : Addr} {u : HO} (h : Rd F a u) : Rd F' a u := h.imp (e _ _) fun ⟨o, h⟩ => ⟨o, e _ _ h⟩
theorem same_sqt (e : Same F F') {a : Addr} {xs : List V} (h : SqT K F a xs) : SqT K F' a xs := h.imp (same_rd e) id
mutual
theorem Dn.mono (e : Same F F') : ∀ (d : PyData) (v : V), Dn K F v d → Dn K F' v d
  | .none, _, h => by cases h; exact .non
  | .bool b, _, h => by cases h; exact .bl b
  | .int i, _, h => by cases h; exact .int i
  | .str x, _, h => by cases h; exact .str x
  | .list ds, _, h => by cases h with | lst h1 h2 => exact .lst (e _ _ h1) (DnAll.mono e ds _ h2)
  | .tuple ds, _, h => by cases h with | tup h1 h2 => exact .tup (same_sqt e h1) (DnAll.mono e ds _ h2)
  | .dict _, _, h => by
    cases h with
    | purse h => exact .purse (e _ _ h)
    | script h q => exact .script (e.seq h) q
    | names h q q2 => exact .names (e _ _ h) q q2
theorem DnAll.mono (e : Same F F') : ∀ (ds : List PyData) (vs : List V), DnAll K F vs ds → DnAll K F' vs ds
  | [], _, h => by cases h; exact .nil
  | d :: ds, _, h => by cases h with | cons h1 h2 => exact .cons (Dn.mono e d _ h1) (DnAll.mono e ds _ h2)
end
theorem Dn.up {v : V} {d : PyData} (h : Dn K F v d) (e : Same F F') : Dn K F' v d := Dn.mono e d v h
theorem DnAll.up {v : List V} {d : List PyData} (h : DnAll K F v d) (e : Same F F') : DnAll K F' v d := DnAll.mono e d v h
/-! what a value of such data is -/
theorem Dn.none_ {v : V} (h : Dn K F v .none) : v = .non := by cases h; rfl
theorem Dn.bool_ {v : V} {b : Bool} (h : Dn K F v (.bool b)) : v = .bl b := by cases h; rfl
theorem Dn.int_ {v : V} {i : Int} (h : Dn K F v (.int i)) : v = .int i := by cases h; rfl
theorem Dn.str_ {v : V} {x : Str} (h : Dn K F v (.str x)) : v = .str x := by cases h; rfl
theorem Dn.list_ {v : V} {ds : List PyData} (h : Dn K F v (.list ds)) : ∃ a xs, v = .ref a ∧ F a = some (.lst xs) ∧ DnAll K F xs ds := by
  cases h with | lst h1 h2 => exact ⟨_, _, rfl, h1, h2⟩
theorem Dn.tuple_ {v : V} {ds : List PyData} (h : Dn K F v (.tuple ds)) : ∃ a xs, v = .ref a ∧ SqT K F a xs ∧ DnAll K F xs ds := by
  cases h with | tup h1 h2 => exact ⟨_, _, rfl, h1, h2⟩
theorem Dn.purse_ {v : V} (h : Dn K F v purseD) : ∃ a, v = .ref a ∧ F a = some (.ext (pF a)) := by
  cases h with | purse h => exact ⟨_, rfl, h⟩
theorem Dn.script_ {v : V} {ns : List Int} (h : Dn K F v (scriptD (ns.map .int))) : ∃ a, v = .ref a ∧ SqL K F a (ns.map V.int) := by
  cases h with
  | script h q =>
    have inj : ∀ (l m : List Int), l.map PyData.int = m.map PyData.int → l = m := by
      intro l
      induction l with
      | nil => intro m q; cases m with | nil => rfl | cons => cases q
      | cons x r ih =>
        intro m q
        cases m with
        | nil => cases q
        | cons y s =>
          rw [List.map_cons, List.map_cons] at q
          injection q with q1 q2
          injection q1 with q1
          rw [q1, ih s q2]
    rw [inj _ _ q]
    exact ⟨_, rfl, h⟩
theorem strs_inj : ∀ {l m : List Str}, l.map PyData.str = m.map PyData.str → l = m := by
  intro l
  induction l with
  | nil => intro m q; cases m with | nil => rfl | cons => cases q
  | cons x r ih =>
    intro m q
    cases m with
    | nil => cases q
    | cons y s =>
      rw [List.map_cons, List.map_cons] at q
      injection q with q1 q2
      injection q1 with q1
      rw [q1, ih q2]
theorem Dn.names_ {v : V} {xs : List Str} (h : Dn K F v (namesD (xs.map .str))) : ∃ a o, v = .ref a ∧ F a = some (.frz o (.tup (xs.map V.str))) ∧ o.dict = none := by
  cases h with
  | names h q q2 =>
    rw [strs_inj q2]
    exact ⟨_, _, rfl, h, q⟩
theorem DnAll.len : ∀ {vs : List V} {ds : List PyData}, DnAll K F vs ds → vs.length = ds.length
  | _, _, .nil => rfl
  | _, _, .cons _ t => by rw [List.length_cons, List.length_cons, t.len]
theorem DnAll.get : ∀ {vs : List V} {ds : List PyData} {i : Nat} {d : PyData}, DnAll K F vs ds → ds[i]? = some d → ∃ v, vs[i]? = some v ∧ Dn K F v d
  | _, _, _, _, .nil, e => by simp at e
  | _, _, 0, _, .cons h _, e => by
    have e := Option.some.inj e
    subst e
    exact ⟨_, rfl, h⟩
  | _, _, i + 1, d, .cons _ t, e => DnAll.get (i := i) (d := d) t e
theorem DnAll.get' : ∀ {vs : List V} {ds : List PyData} {i : Nat} {v : V}, DnAll K F vs ds → vs[i]? = some v → ∃ d, ds[i]? = some d ∧ Dn K F v d
  | _, _, _, _, .nil, e => by simp at e
  | _, _, 0, _, .cons h _, e => by
    have e := Option.some.inj e
    subst e
    exact ⟨_, rfl, h⟩
  | _, _, i + 1, d, .cons _ t, e => DnAll.get' (i := i) t e
theorem DnAll.append : ∀ {vs ws : List V} {ds es : List PyData}, DnAll K F vs ds → DnAll K F ws es → DnAll K F (vs ++ ws) (ds ++ es)
  | _, _, _, _, .nil, h => h
  | _, _, _, _, .cons h t, q => .cons h (DnAll.append t q)
theorem DnAll.set {v : V} {d : PyData} (q : Dn K F v d) : ∀ {vs : List V} {ds : List PyData} (i : Nat), DnAll K F vs ds → DnAll K F (vs.set i v) (ds.set i d)
  | _, _, _, .nil => .nil
  | _, _, 0, .cons _ t => .cons q t
  | _, _, i + 1, .cons h t => .cons h (DnAll.set q i t)
theorem DnAll.ints : ∀ (ns : List Int), DnAll K F (ns.map V.int) (ns.map PyData.int)
  | [] => .nil
  | n :: r => .cons (.int n) (DnAll.ints r)
theorem DnAll.strs : ∀ (ns : List Str), DnAll K F (ns.map V.str) (ns.map PyData.str)
  | [] => .nil
  | n :: r => .cons (.str n) (DnAll.strs r)
theorem DnAll.ints_ : ∀ {ns : List Int} {vs : List V}, DnAll K F vs (ns.map PyData.int) → vs = ns.map V.int
  | [], _, h => by cases h; rfl
  | n :: r, _, h => by
    cases h with
    | cons h1 h2 => rw [h1.int_, DnAll.ints_ h2]; rfl
theorem DnAll.strs_ : ∀ {ns : List Str} {vs : List V}, DnAll K F vs (ns.map PyData.str) → vs = ns.map V.str
  | [], _, h => by cases h; rfl
  | n :: r, _, h => by
    cases h with
    | cons h1 h2 => rw [h1.str_, DnAll.strs_ h2]; rfl
theorem DnAll.bools_ : ∀ {ns : List Bool} {vs : List V}, DnAll K F vs (ns.map PyData.bool) → vs = ns.map V.bl
  | [], _, h => by cases h; rfl
  | n :: r, _, h => by
    cases h with
    | cons h1 h2 => rw [h1.bool_, DnAll.bools_ h2]; rfl
theorem DnAll.take : ∀ {vs : List V} {ds : List PyData} (n : Nat), DnAll K F vs ds → DnAll K F (vs.take n) (ds.take n)
  | _, _, 0, _ => by simp only [List.take_zero]; exact .nil
  | _, _, _ + 1, .nil => .nil
  | _, _, n + 1, .cons h t => .cons h (DnAll.take n t)
theorem DnAll.drop : ∀ {vs : List V} {ds : List PyData} (n : Nat), DnAll K F vs ds → DnAll K F (vs.drop n) (ds.drop n)
  | _, _, 0, h => h
  | _, _, _ + 1, .nil => .nil
  | _, _, n + 1, .cons _ t => DnAll.drop n t
/-- the names of the words are a tuple of texts -/
theorem Dn.tup_of_names {v : V} {xs : List Str} (h : Dn K F v (namesD (xs.map .str))) : Dn K F v (.tuple (xs.map .str)) := by
  obtain ⟨a, o, rfl, h, _⟩ := h.names_
  exact .tup (.inl (.inr ⟨o, h⟩)) (DnAll.strs xs)

/-! ### the frozen part and the heap, from here to there -/
structure Ext (F H F2 H2 : Hp) : Prop where
  f : Same F F2
  s : Same F2 H2
  h : Same H H2
  n : ∀ a, H a ≠ none → F a = none → F2 a = none
theorem Ext.refl {F H : Hp} (s : Same F H) : Ext F H F H := ⟨.refl F, s, .refl H, fun _ _ h => h⟩
theorem ne_none_of {H H2 : Hp} (e : Same H H2) {a : Addr} (h : H a ≠ none) : H2 a ≠ none := by
  cases q : H a with
  | none => exact absurd q h
  | some o => rw [e a o q]; exact fun z => nomatch z
theorem Ext.trans {F H F1 H1 F2 H2 : Hp} (a : Ext F H F1 H1) (b : Ext F1 H1 F2 H2) : Ext F H F2 H2 :=
  ⟨a.f.trans b.f, b.s, a.h.trans b.h, fun c h1 h2 => b.n c (ne_none_of a.h h1) (a.n c h1 h2)⟩
/-- a new frozen object -/
theorem Ext.new {F H : Hp} (s : Same F H) {p : Addr} (hp : H p = none) (o : HO) : Ext F H (upd F p o) (upd H p o) := by
  have hf : F p = none := s.free hp
  refine ⟨fun a u q => ?_, fun a u q => ?_, fun a u q => ?_, fun a h1 h2 => ?_⟩
  · rw [upd_ne (ne_of_none q hf)]; exact q
  · by_cases e : a = p
    · subst e; rw [upd_same] at q ⊢; exact q
    · rw [upd_ne e] at q ⊢; exact s _ _ q
  · rw [upd_ne (ne_of_none q hp)]; exact q
  · rw [upd_ne (fun e => h1 (by rw [e]; exact hp))]; exact h2

abbrev Env := List (Option PyData)
/-- the slots hold the data -/
structure EnvOk (K : PySem.W.Frag) (F : Hp) (σ : L2.St) (es : Env) : Prop where
  len : σ.length = es.length
  at_ : ∀ (i : Nat) (d : PyData), es[i]? = some (some d) → ∃ v, σ[i]? = some (some v) ∧ Dn K F v d
theorem EnvOk.up {σ : L2.St} {es : Env} (h : EnvOk K F σ es) (e : Same F F') : EnvOk K F' σ es := ⟨h.len, fun i d q => let ⟨v, h1, h2⟩ := h.at_ i d q; ⟨v, h1, h2.up e⟩⟩
theorem EnvOk.set {σ : L2.St} {es : Env} (h : EnvOk K F σ es) (i : Nat) {v : V} {d : PyData} (q : Dn K F v d) : EnvOk K F (σ.set i (some v)) (es.set i (some d)) := by
  refine ⟨by rw [List.length_set, List.length_set]; exact h.len, fun j e he => ?_⟩
  by_cases hj : i = j
  · subst hj
    have hl : i < es.length := by
      have := (List.getElem?_eq_some_iff.mp he).1
      rw [List.length_set] at this
      exact this
    rw [List.getElem?_set_self hl] at he
    cases he
    exact ⟨v, by rw [List.getElem?_set_self (by rw [h.len]; exact hl)], q⟩
  · rw [List.getElem?_set_ne hj] at he ⊢
    exact h.at_ j e he
/-- a slot that nothing is known of -/
theorem EnvOk.forget {σ : L2.St} {es : Env} (h : EnvOk K F σ es) (i : Nat) (x : Option V) : EnvOk K F (σ.set i x) (es.set i none) := by
  refine ⟨by rw [List.length_set, List.length_set]; exact h.len, fun j e he => ?_⟩
  by_cases hj : i = j
  · subst hj
    have hl : i < es.length := by
      have := (List.getElem?_eq_some_iff.mp he).1
      rw [List.length_set] at this
      exact this
    rw [List.getElem?_set_self hl] at he
    cases he
  · rw [List.getElem?_set_ne hj] at he ⊢
    exact h.at_ j e he
theorem EnvOk.forget0 {σ : L2.St} {es : Env} (h : EnvOk K F σ es) (i : Nat) : EnvOk K F σ (es.set i none) := by
  refine ⟨by rw [List.length_set]; exact h.len, fun j e he => ?_⟩
  by_cases hj : i = j
  · subst hj
    have hl : i < es.length := by
      have := (List.getElem?_eq_some_iff.mp he).1
      rw [List.length_set] at this
      exact this
    rw [List.getElem?_set_self hl] at he
    cases he
  · rw [List.getElem?_set_ne hj] at he
    exact h.at_ j e he
def wipeE (es : Env) : List Nat → Env
  | [] => es
  | v :: vs => (wipeE es vs).set v none
theorem EnvOk.wipe {σ : L2.St} {es : Env} (h : EnvOk K F σ es) : ∀ vs : List Nat, EnvOk K F (wipe σ vs) (wipeE es vs)
  | [] => h
  | v :: vs => (EnvOk.wipe h vs).forget v none
theorem wipe_get (σ : L2.St) (j : Nat) : ∀ vs : List Nat, (wipe σ vs)[j]? = if j ∈ vs ∧ j < σ.length then some none else σ[j]?
  | [] => by simp [L2.wipe]
  | v :: vs => by
    show ((wipe σ vs).set v none)[j]? = _
    by_cases hj : v = j
    · subst hj
      by_cases hl : v < σ.length
      · rw [List.getElem?_set_self (by rw [wipe_length]; exact hl), if_pos ⟨List.mem_cons_self, hl⟩]
      · rw [if_neg (fun q => hl q.2), List.getElem?_eq_none (by rw [List.length_set, wipe_length]; omega), List.getElem?_eq_none (by omega)]
    · rw [List.getElem?_set_ne hj, wipe_get σ j vs]
      by_cases hm : j ∈ vs ∧ j < σ.length
      · rw [if_pos hm, if_pos ⟨List.mem_cons_of_mem _ hm.1, hm.2⟩]
      · rw [if_neg hm, if_neg]
        intro q
        rcases List.mem_cons.mp q.1 with e | e
        · exact hj e.symm
        · exact hm ⟨e, q.2⟩
/-- what a block's own names got is forgotten behind its turn -/
theorem wipe_set {σ : L2.St} {vs : List Nat} {j : Nat} (hj : j ∈ vs) (x : Option V) {τ : L2.St} (e : wipe τ vs = wipe σ vs) : wipe (τ.set j x) vs = wipe σ vs := by
  rw [← e]
  apply List.ext_getElem?
  intro i
  rw [wipe_get, wipe_get, List.length_set]
  by_cases h : i ∈ vs ∧ i < τ.length
  · rw [if_pos h, if_pos h]
  · rw [if_neg h, if_neg h]
    by_cases hij : j = i
    · subst hij
      have hl : ¬ j < τ.length := fun q => h ⟨hj, q⟩
      rw [List.getElem?_eq_none (by rw [List.length_set]; omega), List.getElem?_eq_none (by omega)]
    · rw [List.getElem?_set_ne hij]
theorem wipe_wipe (σ : L2.St) (vs : List Nat) : wipe (wipe σ vs) vs = wipe σ vs := by
  apply List.ext_getElem?
  intro i
  rw [wipe_get, wipe_length]
  by_cases h : i ∈ vs ∧ i < σ.length
  · rw [if_pos h, wipe_get, if_pos h]
  · rw [if_neg h]

/-! ### what an expression evaluates to -/
/-- what the rest must take -/
def Res (K : PySem.W.Frag) (F H : Hp) (P : PyData → Prop) (Q : VK) : Prop := ∀ v F2 H2 d, Ext F H F2 H2 → Dn K F2 v d → P d → Q v H2
def Ep (K : PySem.W.Frag) (te : TE) (es : Env) (P : PyData → Prop) : Prop := ∀ σ F H, Same F H → EnvOk K F σ es → ∀ Q : VK, Res K F H P Q → te σ H Q
/-- one answer -/
abbrev Ed (K : PySem.W.Frag) (te : TE) (es : Env) (d : PyData) : Prop := Ep K te es fun x => x = d
def EpA (K : PySem.W.Frag) (ta : TA) (es : Env) (P : List PyData → Prop) : Prop := ∀ σ F H, Same F H → EnvOk K F σ es → ∀ Q : List V → Hp → Prop, (∀ vs F2 H2 ds, Ext F H F2 H2 → DnAll K F2 vs ds → P ds → Q vs H2) → ta σ H Q
abbrev EdA (K : PySem.W.Frag) (ta : TA) (es : Env) (ds : List PyData) : Prop := EpA K ta es fun x => x = ds
def Tp (K : PySem.W.Frag) (tt : TT) (es : Env) (P : Bool → Prop) : Prop := ∀ σ F H, Same F H → EnvOk K F σ es → ∀ Q : Bool → Hp → Prop, (∀ b F2 H2, Ext F H F2 H2 → P b → Q b H2) → tt σ H Q
abbrev Td (K : PySem.W.Frag) (tt : TT) (es : Env) (b : Bool) : Prop := Tp K tt es fun x => x = b
/-- a two-place operation on data -/
def Rp (K : PySem.W.Frag) (r : R2) (x y : PyData) (P : PyData → Prop) : Prop := ∀ vx vy F H, Same F H → Dn K F vx x → Dn K F vy y → ∀ Q : VK, Res K F H P Q → r vx vy H Q
/-- a call on data -/
def Cp (K : PySem.W.Frag) (r : List V → Hp → VK → Prop) (xs : List PyData) (P : PyData → Prop) : Prop := ∀ vs F H, Same F H → DnAll K F vs xs → ∀ Q : VK, Res K F H P Q → r vs H Q
theorem Res.now {F H : Hp} {P : PyData → Prop} {Q : VK} (q : Res K F H P Q) (s : Same F H) {v : V} {d : PyData} (h : Dn K F v d) (p : P d) : Q v H := q v F H d (.refl s) h p
theorem Res.after {F H F1 H1 : Hp} {P : PyData → Prop} {Q : VK} (q : Res K F H P Q) (e : Ext F H F1 H1) : Res K F1 H1 P Q := fun v F2 H2 d e2 h p => q v F2 H2 d (e.trans e2) h p
section
variable {es : Env} {te ta tb : TE} {tl tr : TA} {tt tu : TT} {P P' Pa Pb : PyData → Prop}
theorem Ep.weak (h : Ep K te es P) (w : ∀ d, P d → P' d) : Ep K te es P' := fun σ F H s E Q q => h σ F H s E Q fun v F2 H2 d e hd p => q v F2 H2 d e hd (w d p)
theorem Ed.is {d d' : PyData} (h : Ed K te es d) (e : d = d') : Ed K te es d' := e ▸ h
theorem Ed.p {d : PyData} (h : Ed K te es d) (p : P d) : Ep K te es P := h.weak fun x e => by rw [e]; exact p
theorem Td.is {b b' : Bool} (h : Td K tt es b) (e : b = b') : Td K tt es b' := e ▸ h
theorem e_var {i : Nat} {d : PyData} (h : es[i]? = some (some d)) : Ed K (tVar i) es d := fun σ F H s E Q q => by
  obtain ⟨v, h1, h2⟩ := E.at_ i d h
  exact ⟨v, h1, q.now s h2 rfl⟩
theorem e_int {i : Int} : Ed K (tC (.int i)) es (.int i) := fun σ F H s E Q q => q.now s (.int i) rfl
theorem e_str {x : Str} : Ed K (tC (.str x)) es (.str x) := fun σ F H s E Q q => q.now s (.str x) rfl
theorem e_bl {b : Bool} : Ed K (tC (.bl b)) es (.bool b) := fun σ F H s E Q q => q.now s (.bl b) rfl
theorem e_non : Ed K (tC .non) es .none := fun σ F H s E Q q => q.now s .non rfl
theorem e_op {r : R2} (ha : Ep K ta es Pa) (hb : Ep K tb es Pb) (hr : ∀ x y, Pa x → Pb y → Rp K r x y P) : Ep K (tOp r ta tb) es P := fun σ F H s E Q q =>
  ha σ F H s E _ fun v F1 H1 x e1 hx px => hb σ F1 H1 e1.s (E.up e1.f) _ fun u F2 H2 y e2 hy py =>
    hr x y px py v u F2 H2 e2.s (hx.up e2.f) hy Q (q.after (e1.trans e2))
/-- both sides known -/
theorem e_opd {r : R2} {x y : PyData} (ha : Ed K ta es x) (hb : Ed K tb es y) (hr : Rp K r x y P) : Ep K (tOp r ta tb) es P :=
  e_op ha hb fun x' y' ex ey => by rw [ex, ey]; exact hr
theorem e_nil : EdA K tNil es [] := fun σ F H s E Q q => q [] F H [] (.refl s) .nil rfl
theorem e_cons {PA PR : List PyData → Prop} (ha : Ep K te es P) (hr : EpA K tr es PA) (w : ∀ d ds, P d → PA ds → PR (d :: ds)) : EpA K (tCons te tr) es PR := fun σ F H s E Q q =>
  ha σ F H s E _ fun v F1 H1 x e1 hx px => hr σ F1 H1 e1.s (E.up e1.f) _ fun vs F2 H2 ds e2 hds pds =>
    q (v :: vs) F2 H2 (x :: ds) (e1.trans e2) (.cons (hx.up e2.f) hds) (w _ _ px pds)
theorem e_consd {d : PyData} {ds : List PyData} (ha : Ed K te es d) (hr : EdA K tr es ds) : EdA K (tCons te tr) es (d :: ds) := e_cons ha hr fun x xs e1 e2 => by rw [e1, e2]
theorem EpA.weak {PA PR : List PyData → Prop} (h : EpA K tl es PA) (w : ∀ ds, PA ds → PR ds) : EpA K tl es PR := fun σ F H s E Q q => h σ F H s E Q fun vs F2 H2 ds e hd p => q vs F2 H2 ds e hd (w ds p)
theorem e_tup {PA : List PyData → Prop} (h : EpA K tl es PA) (hz : ∀ ds, PA ds → ds.length ≤ 1000) (w : ∀ ds, PA ds → P (.tuple ds)) : Ep K (tTup tl) es P := fun σ F H s E Q q =>
  h σ F H s E _ fun vs F1 H1 ds e1 hds p => by
    have hl : vs.length ≤ 1000 := by rw [hds.len]; exact hz ds p
    refine ⟨Nat.le_of_lt (small1000 hl), fun a ha => ?_⟩
    have e2 := Ext.new e1.s ha (.tup vs)
    exact q _ _ _ _ (e1.trans e2) (.tup (SqT.of upd_same) (hds.up e2.f)) (w ds p)
theorem e_tupd {ds : List PyData} (h : EdA K tl es ds) (hz : ds.length ≤ 1000) : Ed K (tTup tl) es (.tuple ds) := e_tup h (fun x e => by rw [e]; exact hz) fun x e => by rw [e]
theorem e_lst {PA : List PyData → Prop} (h : EpA K tl es PA) (hz : ∀ ds, PA ds → ds.length ≤ 1000) (w : ∀ ds, PA ds → P (.list ds)) : Ep K (tLst tl) es P := fun σ F H s E Q q =>
  h σ F H s E _ fun vs F1 H1 ds e1 hds p => by
    have hl : vs.length ≤ 1000 := by rw [hds.len]; exact hz ds p
    refine ⟨Nat.le_of_lt (small1000 hl), fun a ha => ?_⟩
    have e2 := Ext.new e1.s ha (.lst vs)
    exact q _ _ _ _ (e1.trans e2) (.lst upd_same (hds.up e2.f)) (w ds p)
theorem e_lstd {ds : List PyData} (h : EdA K tl es ds) (hz : ds.length ≤ 1000) : Ed K (tLst tl) es (.list ds) := e_lst h (fun x e => by rw [e]; exact hz) fun x e => by rw [e]
theorem e_if {b : Bool} (hc : Td K tt es b) (h1 : b = true → Ep K ta es P) (h2 : b = false → Ep K tb es P) : Ep K (tIf tt ta tb) es P := fun σ F H s E Q q =>
  hc σ F H s E _ fun c F1 H1 e1 ec => by
    subst ec
    cases c with
    | true => exact h1 rfl σ F1 H1 e1.s (E.up e1.f) Q (q.after e1)
    | false => exact h2 rfl σ F1 H1 e1.s (E.up e1.f) Q (q.after e1)
theorem e_cb {r : List V → Hp → VK → Prop} {PA : List PyData → Prop} (h : EpA K tl es PA) (hr : ∀ ds, PA ds → Cp K r ds P) : Ep K (tCB r tl) es P := fun σ F H s E Q q =>
  h σ F H s E _ fun vs F1 H1 ds e1 hds p => hr ds p vs F1 H1 e1.s hds Q (q.after e1)
theorem e_cbd {r : List V → Hp → VK → Prop} {ds : List PyData} (h : EdA K tl es ds) (hr : Cp K r ds P) : Ep K (tCB r tl) es P := e_cb h fun x e => by rw [e]; exact hr
/-! ### and, or, not of values -/
theorem e_andV {b : Bool} (h1 : Ed K ta es (.bool b)) (h2 : b = true → Ep K tb es P) (h3 : b = false → P (.bool false)) : Ep K (tAndV ta tb) es P := fun σ F H s E Q q =>
  h1 σ F H s E _ fun v F1 H1 d e1 hd ed => by
    subst ed
    have := hd.bool_
    subst this
    refine ⟨b, rfl, ?_⟩
    cases b with
    | true => exact h2 rfl σ F1 H1 e1.s (E.up e1.f) Q (q.after e1)
    | false => exact q _ F1 H1 _ e1 (.bl false) (h3 rfl)
theorem e_orV {b : Bool} (h1 : Ed K ta es (.bool b)) (h2 : b = true → P (.bool true)) (h3 : b = false → Ep K tb es P) : Ep K (tOrV ta tb) es P := fun σ F H s E Q q =>
  h1 σ F H s E _ fun v F1 H1 d e1 hd ed => by
    subst ed
    have := hd.bool_
    subst this
    refine ⟨b, rfl, ?_⟩
    cases b with
    | true => exact q _ F1 H1 _ e1 (.bl true) (h2 rfl)
    | false => exact h3 rfl σ F1 H1 e1.s (E.up e1.f) Q (q.after e1)
theorem e_andVd {b c : Bool} (h1 : Ed K ta es (.bool b)) (h2 : b = true → Ed K tb es (.bool c)) : Ed K (tAndV ta tb) es (.bool (b && c)) :=
  e_andV h1 (fun e => by rw [e, Bool.true_and]; exact h2 e) fun e => by rw [e]; rfl
theorem e_orVd {b c : Bool} (h1 : Ed K ta es (.bool b)) (h2 : b = false → Ed K tb es (.bool c)) : Ed K (tOrV ta tb) es (.bool (b || c)) :=
  e_orV h1 (fun e => by rw [e]; rfl) fun e => by rw [e, Bool.false_or]; exact h2 e
theorem e_notV {b : Bool} (h1 : Ed K ta es (.bool b)) : Ed K (tNotV ta) es (.bool (!b)) := fun σ F H s E Q q =>
  h1 σ F H s E _ fun v F1 H1 d e1 hd ed => by
    subst ed
    have := hd.bool_
    subst this
    exact ⟨b, rfl, q _ F1 H1 _ e1 (.bl _) rfl⟩
/-! ### tests -/
theorem t_test {B : Bool → Prop} (h : Ep K te es P) (w : ∀ d, P d → ∃ b, d = .bool b ∧ B b) : Tp K (tTest te) es B := fun σ F H s E Q q =>
  h σ F H s E _ fun v F1 H1 d e1 hd p => by
    obtain ⟨b, rfl, pb⟩ := w d p
    exact ⟨b, hd.bool_, q b F1 H1 e1 pb⟩
theorem t_testd {b : Bool} (h : Ed K te es (.bool b)) : Td K (tTest te) es b := t_test h fun d e => ⟨b, e, rfl⟩
theorem t_B {B : Bool → Prop} (h : Ep K te es P) (w : ∀ d, P d → ∃ b, d = .bool b ∧ B b) : Tp K (tB te) es B := fun σ F H s E Q q =>
  h σ F H s E _ fun v F1 H1 d e1 hd p => by
    obtain ⟨b, rfl, pb⟩ := w d p
    exact ⟨b, hd.bool_, q b F1 H1 e1 pb⟩
theorem t_Bd {b : Bool} (h : Ed K te es (.bool b)) : Td K (tB te) es b := t_B h fun d e => ⟨b, e, rfl⟩
theorem t_and {a b : Bool} (h1 : Td K tt es a) (h2 : a = true → Td K tu es b) : Td K (tAnd tt tu) es (a && b) := fun σ F H s E Q q =>
  h1 σ F H s E _ fun c F1 H1 e1 ec => by
    subst ec
    cases c with
    | true => exact h2 rfl σ F1 H1 e1.s (E.up e1.f) _ fun d F2 H2 e2 ed => q d F2 H2 (e1.trans e2) (by rw [ed]; rfl)
    | false => exact q false F1 H1 e1 rfl
theorem t_or {a b : Bool} (h1 : Td K tt es a) (h2 : a = false → Td K tu es b) : Td K (tOr tt tu) es (a || b) := fun σ F H s E Q q =>
  h1 σ F H s E _ fun c F1 H1 e1 ec => by
    subst ec
    cases c with
    | true => exact q true F1 H1 e1 rfl
    | false => exact h2 rfl σ F1 H1 e1.s (E.up e1.f) _ fun d F2 H2 e2 ed => q d F2 H2 (e1.trans e2) (by rw [ed]; rfl)
theorem t_not {a : Bool} (h1 : Td K tt es a) : Td K (tNot tt) es (!a) := fun σ F H s E Q q =>
  h1 σ F H s E _ fun c F1 H1 e1 ec => q (!c) F1 H1 e1 (by rw [ec])
theorem Tp.weak {B B' : Bool → Prop} (h : Tp K tt es B) (w : ∀ b, B b → B' b) : Tp K tt es B' := fun σ F H s E Q q => h σ F H s E Q fun b F2 H2 e p => q b F2 H2 e (w b p)

/-! ### operations -/
theorem r_I0 {g : Int → Int → V} {i j : Int} {d : PyData} (h : ∀ F : Hp, Dn K F (g i j) d) (p : P d) : Rp K (rI0 g) (.int i) (.int j) P := fun vx vy F H s hx hy Q q =>
  ⟨i, j, hx.int_, hy.int_, q.now s (h F) p⟩
theorem r_I {C : Int → Int → Prop} {g : Int → Int → V} {i j : Int} {d : PyData} (c : C i j) (h : ∀ F : Hp, Dn K F (g i j) d) (p : P d) : Rp K (rI C g) (.int i) (.int j) P := fun vx vy F H s hx hy Q q =>
  ⟨i, j, hx.int_, hy.int_, c, q.now s (h F) p⟩
/-- ints made of ints -/
theorem e_I0 {f : Int → Int → Int} {i j : Int} (ha : Ed K ta es (.int i)) (hb : Ed K tb es (.int j)) : Ed K (tOp (rI0 fun i j => .int (f i j)) ta tb) es (.int (f i j)) := e_opd ha hb (r_I0 (fun _ => .int _) rfl)
theorem e_I {C : Int → Int → Prop} {f : Int → Int → Int} {i j : Int} (ha : Ed K ta es (.int i)) (hb : Ed K tb es (.int j)) (c : C i j) : Ed K (tOp (rI C fun i j => .int (f i j)) ta tb) es (.int (f i j)) := e_opd ha hb (r_I c (fun _ => .int _) rfl)
theorem e_B0 {f : Int → Int → Bool} {i j : Int} (ha : Ed K ta es (.int i)) (hb : Ed K tb es (.int j)) : Ed K (tOp (rI0 fun i j => .bl (f i j)) ta tb) es (.bool (f i j)) := e_opd ha hb (r_I0 (fun _ => .bl _) rfl)
/-- == and != of plain things -/
def scalD : PyData → PyData → Bool
  | .int _, .int _ => true
  | .str _, .str _ => true
  | .bool _, .bool _ => true
  | _, _ => false
end
end
end Wf


/-! Statements, loops and comprehensions over plain data; one list of the def's own that changes, at the slot j. -/
namespace Wf
open PySem PySem.Spec PyProof.Rows L2
section
variable {K : PySem.W.Frag}

/-! ### a list of the def's own -/
def Own (K : PySem.W.Frag) (F H H0 : Hp) (σ : L2.St) (j : Nat) : Option (List PyData) → Prop
  | none => True
  | some ds => ∃ a vs, σ[j]? = some (some (.ref a)) ∧ H0 a = none ∧ F a = none ∧ H a = some (.lst vs) ∧ DnAll K F vs ds
theorem Own.after {F H F2 H2 H0 : Hp} {σ : L2.St} {j : Nat} {o : Option (List PyData)} (h : Own K F H H0 σ j o) (e : Ext F H F2 H2) : Own K F2 H2 H0 σ j o := by
  cases o with
  | none => trivial
  | some ds =>
    obtain ⟨a, vs, h1, h2, h3, h4, h5⟩ := h
    exact ⟨a, vs, h1, h2, e.n a (by rw [h4]; exact fun z => nomatch z) h3, e.h a _ h4, h5.up e.f⟩
theorem Own.set {F H H0 : Hp} {σ : L2.St} {i j : Nat} {o : Option (List PyData)} (h : Own K F H H0 σ j o) (hij : i ≠ j) (x : Option V) : Own K F H H0 (σ.set i x) j o := by
  cases o with
  | none => trivial
  | some ds =>
    obtain ⟨a, vs, h1, h2⟩ := h
    exact ⟨a, vs, by rw [List.getElem?_set_ne hij]; exact h1, h2⟩
abbrev NP := Env → Option (List PyData) → Prop
/-- a statement: N: where it ends; R: what it returns -/
def Sd (K : PySem.W.Frag) (j : Nat) (t : TS) (es : Env) (o : Option (List PyData)) (N : NP) (R : PyData → Prop) : Prop :=
  ∀ F0 H0 σ F H D, Ext F0 H0 F H → EnvOk K F σ es → Own K F H H0 σ j o →
    (∀ σ2 F2 H2 es2 o2, Ext F0 H0 F2 H2 → Same F F2 → EnvOk K F2 σ2 es2 → Own K F2 H2 H0 σ2 j o2 → N es2 o2 → D.nx σ2 H2) →
    (∀ v F2 H2 d, Ext F0 H0 F2 H2 → Dn K F2 v d → R d → D.rt v H2) → t D σ H
section
variable {j : Nat} {es : Env} {o : Option (List PyData)} {N N1 : NP} {R P : PyData → Prop} {t u : TS} {te ti ta tb tl : TE} {tt : TT} {tA : TA}
theorem sd_weak (h : Sd K j t es o N1 R) (w : ∀ es2 o2, N1 es2 o2 → N es2 o2) : Sd K j t es o N R := fun F0 H0 σ F H D x E O kn kr =>
  h F0 H0 σ F H D x E O (fun σ2 F2 H2 es2 o2 x2 y2 E2 O2 n => kn σ2 F2 H2 es2 o2 x2 y2 E2 O2 (w es2 o2 n)) kr
theorem sd_seq (h : Sd K j t es o (fun es1 o1 => Sd K j u es1 o1 N R) R) : Sd K j (tSeq t u) es o N R := fun F0 H0 σ F H D x E O kn kr =>
  h F0 H0 σ F H { D with nx := u D } x E O (fun σ2 F2 H2 es2 o2 x2 y2 E2 O2 n => n F0 H0 σ2 F2 H2 D x2 E2 O2 (fun σ3 F3 H3 es3 o3 x3 y3 E3 O3 m => kn σ3 F3 H3 es3 o3 x3 (y2.trans y3) E3 O3 m) kr) kr
theorem sd_next (h : N es o) : Sd K j tNext es o N R := fun F0 H0 σ F H D x E O kn kr => kn σ F H es o x (.refl _) E O h
theorem sd_asg {i : Nat} (h : Ep K te es P) (hij : i ≠ j) (k : ∀ d, P d → N (es.set i (some d)) o) : Sd K j (tAsg te (gName i)) es o N R := fun F0 H0 σ F H D x E O kn kr =>
  h σ F H x.s E _ fun v F2 H2 d e hd p => kn _ F2 H2 _ o (x.trans e) e.f ((E.up e.f).set i hd) ((O.after e).set hij _) (k d p)
/-- x = e, then the rest -/
theorem sd_set {i : Nat} (h : Ep K te es P) (hij : i ≠ j) (k : ∀ d, P d → Sd K j u (es.set i (some d)) o N R) : Sd K j (tSeq (tAsg te (gName i)) u) es o N R := sd_seq (sd_asg h hij k)
theorem sd_setd {i : Nat} {d : PyData} (h : Ed K te es d) (hij : i ≠ j) (k : Sd K j u (es.set i (some d)) o N R) : Sd K j (tSeq (tAsg te (gName i)) u) es o N R := sd_set h hij fun x e => by rw [e]; exact k
theorem sd_ret (h : Ep K te es R) : Sd K j (tRet te) es o N R := fun F0 H0 σ F H D x E O kn kr =>
  h σ F H x.s E _ fun v F2 H2 d e hd p => kr v F2 H2 d (x.trans e) hd p
theorem sd_retd {d : PyData} (h : Ed K te es d) (p : R d) : Sd K j (tRet te) es o N R := sd_ret (h.p p)
theorem sd_if {B : Bool → Prop} (h : Tp K tt es B) (h1 : B true → Sd K j t es o N R) (h2 : B false → Sd K j u es o N R) : Sd K j (tIfS tt t u) es o N R := fun F0 H0 σ F H D x E O kn kr =>
  h σ F H x.s E _ fun b F2 H2 e p => by
    have kn' : ∀ σ3 F3 H3 es3 o3, Ext F0 H0 F3 H3 → Same F2 F3 → EnvOk K F3 σ3 es3 → Own K F3 H3 H0 σ3 j o3 → N es3 o3 → D.nx σ3 H3 := fun σ3 F3 H3 es3 o3 x3 y3 => kn σ3 F3 H3 es3 o3 x3 (e.f.trans y3)
    cases b with
    | true => exact h1 p F0 H0 σ F2 H2 D (x.trans e) (E.up e.f) (O.after e) kn' kr
    | false => exact h2 p F0 H0 σ F2 H2 D (x.trans e) (E.up e.f) (O.after e) kn' kr
theorem sd_ifd {b : Bool} (h : Td K tt es b) (h1 : b = true → Sd K j t es o N R) (h2 : b = false → Sd K j u es o N R) : Sd K j (tIfS tt t u) es o N R := sd_if h (fun e => h1 e.symm) fun e => h2 e.symm
/-- if: a return; then the rest -/
theorem sd_when {tz : TS} {b : Bool} (h : Td K tt es b) (h1 : b = true → Sd K j t es o (fun es1 o1 => Sd K j tz es1 o1 N R) R) (h2 : b = false → Sd K j tz es o N R) : Sd K j (tSeq (tIfS tt t tNext) tz) es o N R :=
  sd_seq (sd_ifd h h1 fun e => sd_next (h2 e))
theorem sd_whenp {tz : TS} {B : Bool → Prop} (h : Tp K tt es B) (h1 : B true → Sd K j t es o (fun es1 o1 => Sd K j tz es1 o1 N R) R) (h2 : B false → Sd K j tz es o N R) : Sd K j (tSeq (tIfS tt t tNext) tz) es o N R :=
  sd_seq (sd_if h h1 fun e => sd_next (h2 e))
theorem sd_drop (h : Ep K te es P) (k : N es o) : Sd K j (tDrop te) es o N R := fun F0 H0 σ F H D x E O kn kr =>
  h σ F H x.s E _ fun v F2 H2 d e hd p => kn _ F2 H2 _ o (x.trans e) e.f (E.up e.f) (O.after e) k
/-! a tuple unpacked -/
theorem g_tup2 {i1 i2 : Nat} {F H : Hp} {σ : L2.St} {v : V} {d1 d2 : PyData} {Q : L2.St → Hp → Prop} (s : Same F H) (hd : Dn K F v (.tuple [d1, d2]))
    (k : ∀ v1 v2, Dn K F v1 d1 → Dn K F v2 d2 → Q ((σ.set i1 (some v1)).set i2 (some v2)) H) : gTup K 2 (gCons (gName i1) (gCons (gName i2) gNil)) v σ H Q := by
  obtain ⟨a, xs, rfl, hx, ha⟩ := hd.tuple_
  cases ha with
  | cons h1 ha =>
    cases ha with
    | cons h2 ha =>
      cases ha
      exact ⟨a, _, rfl, same_sqt s hx, rfl, _, _, rfl, _, _, rfl, rfl, k _ _ h1 h2⟩
theorem g_tup3 {i1 i2 i3 : Nat} {F H : Hp} {σ : L2.St} {v : V} {d1 d2 d3 : PyData} {Q : L2.St → Hp → Prop} (s : Same F H) (hd : Dn K F v (.tuple [d1, d2, d3]))
    (k : ∀ v1 v2 v3, Dn K F v1 d1 → Dn K F v2 d2 → Dn K F v3 d3 → Q (((σ.set i1 (some v1)).set i2 (some v2)).set i3 (some v3)) H) : gTup K 3 (gCons (gName i1) (gCons (gName i2) (gCons (gName i3) gNil))) v σ H Q := by
  obtain ⟨a, xs, rfl, hx, ha⟩ := hd.tuple_
  cases ha with
  | cons h1 ha =>
    cases ha with
    | cons h2 ha =>
      cases ha with
      | cons h3 ha =>
        cases ha
        exact ⟨a, _, rfl, same_sqt s hx, rfl, _, _, rfl, _, _, rfl, _, _, rfl, rfl, k _ _ _ h1 h2 h3⟩
theorem sd_un2 {i1 i2 : Nat} {d1 d2 : PyData} (h : Ed K te es (.tuple [d1, d2])) (hi1 : i1 ≠ j) (hi2 : i2 ≠ j) (k : Sd K j u ((es.set i1 (some d1)).set i2 (some d2)) o N R) :
    Sd K j (tSeq (tAsg te (gTup K 2 (gCons (gName i1) (gCons (gName i2) gNil)))) u) es o N R := fun F0 H0 σ F H D x E O kn kr =>
  h σ F H x.s E _ fun v F2 H2 d e hd p => by
    subst p
    refine g_tup2 e.s hd fun v1 v2 h1 h2 => ?_
    exact k F0 H0 _ F2 H2 D (x.trans e) (((E.up e.f).set i1 h1).set i2 h2) (((O.after e).set hi1 _).set hi2 _) (fun σ3 F3 H3 es3 o3 x3 y3 => kn σ3 F3 H3 es3 o3 x3 (e.f.trans y3)) kr
theorem sd_un3 {i1 i2 i3 : Nat} {d1 d2 d3 : PyData} (h : Ed K te es (.tuple [d1, d2, d3])) (hi1 : i1 ≠ j) (hi2 : i2 ≠ j) (hi3 : i3 ≠ j) (k : Sd K j u (((es.set i1 (some d1)).set i2 (some d2)).set i3 (some d3)) o N R) :
    Sd K j (tSeq (tAsg te (gTup K 3 (gCons (gName i1) (gCons (gName i2) (gCons (gName i3) gNil))))) u) es o N R := fun F0 H0 σ F H D x E O kn kr =>
  h σ F H x.s E _ fun v F2 H2 d e hd p => by
    subst p
    refine g_tup3 e.s hd fun v1 v2 v3 h1 h2 h3 => ?_
    exact k F0 H0 _ F2 H2 D (x.trans e) ((((E.up e.f).set i1 h1).set i2 h2).set i3 h3) ((((O.after e).set hi1 _).set hi2 _).set hi3 _) (fun σ3 F3 H3 es3 o3 x3 y3 => kn σ3 F3 H3 es3 o3 x3 (e.f.trans y3)) kr

/-! ### loops -/
/-- between the turns -/
def Turns (K : PySem.W.Frag) (j : Nat) (F0 H0 F1 : Hp) (I : Nat → NP) (k : Nat) (σ : L2.St) (H : Hp) : Prop := ∃ F es o, Same F1 F ∧ Ext F0 H0 F H ∧ EnvOk K F σ es ∧ Own K F H H0 σ j o ∧ I k es o
theorem turn_ {F0 H0 F1 F H : Hp} {σ : L2.St} {D : Ends} {I : Nat → NP} {k : Nat} (s : Same F1 F) (x : Ext F0 H0 F H) (E : EnvOk K F σ es) (O : Own K F H H0 σ j o)
    (kr : ∀ v F2 H2 d, Ext F0 H0 F2 H2 → Dn K F2 v d → R d → D.rt v H2) (h : Sd K j t es o (I (k + 1)) R) {bk : L2.St → Hp → Prop} :
    t { D with nx := Turns K j F0 H0 F1 I (k + 1), ct := Turns K j F0 H0 F1 I (k + 1), bk := bk } σ H :=
  h F0 H0 σ F H _ x E O (fun σ2 F2 H2 es2 o2 x2 y2 E2 O2 n => ⟨F2, es2, o2, s.trans y2, x2, E2, O2, n⟩) kr
theorem sd_forR {i : Nat} {n : Int} (h : EdA K tA es [.int n]) (hij : i ≠ j) (I : Nat → NP) (h0 : I 0 es o)
    (hs : ∀ (k : Nat) es1 o1, (k : Int) < n → I k es1 o1 → Sd K j t (es1.set i (some (.int (k : Int)))) o1 (I (k + 1)) R) (hd : ∀ es1 o1, I n.toNat es1 o1 → N es1 o1) (hn : -100000 ≤ n ∧ n ≤ 100000 := by omega) :
    Sd K j (tFor (iRng1 tA) (gName i) t) es o N R := fun F0 H0 σ F H D x E O kn kr =>
  h σ F H x.s E _ fun vs F2 H2 ds e hds p => by
    subst p
    cases hds with
    | cons h1 h2 =>
      cases h2
      have := h1.int_
      subst this
      refine ⟨n, rfl, by omega, by omega, ?_⟩
      refine for_range (lo := 0) (n := n.toNat) (Turns K j F0 H0 F2 I)
        ⟨F2, es, o, .refl _, x.trans e, E.up e.f, O.after e, h0⟩ (fun k σ' H' hk ⟨F', es', o', s', x', E', O', i'⟩ => ?_) fun σ' H' ⟨F', es', o', s', x', E', O', i'⟩ => kn σ' F' H' es' o' x' (e.f.trans s') E' O' (hd es' o' i')
      have e0 : (0 : Int) + (k : Int) = (k : Int) := Int.zero_add _
      show t _ (σ'.set i (some (.int ((0 : Int) + (k : Int))))) H'
      rw [e0]
      exact turn_ s' x' (E'.set i (.int _)) (O'.set hij _) kr (hs k es' o' (by omega) i')
theorem sd_forR2 {i : Nat} {lo n : Int} (h : EdA K tA es [.int lo, .int n]) (hij : i ≠ j) (I : Nat → NP) (h0 : I 0 es o)
    (hs : ∀ (k : Nat) es1 o1, lo + (k : Int) < n → I k es1 o1 → Sd K j t (es1.set i (some (.int (lo + (k : Int))))) o1 (I (k + 1)) R) (hd : ∀ es1 o1, I (n - lo).toNat es1 o1 → N es1 o1)
    (hl : -100000 ≤ lo ∧ lo ≤ 100000 := by omega) (hn : -100000 ≤ n ∧ n ≤ 100000 := by omega) :
    Sd K j (tFor (iRng2 tA) (gName i) t) es o N R := fun F0 H0 σ F H D x E O kn kr =>
  h σ F H x.s E _ fun vs F2 H2 ds e hds p => by
    subst p
    cases hds with
    | cons h1 h2 =>
      cases h2 with
      | cons h2 h3 =>
        cases h3
        have := h1.int_
        subst this
        have := h2.int_
        subst this
        refine ⟨lo, n, rfl, ⟨by omega, by omega, by omega, by omega⟩, ?_⟩
        refine for_range (lo := lo) (n := (n - lo).toNat) (Turns K j F0 H0 F2 I)
          ⟨F2, es, o, .refl _, x.trans e, E.up e.f, O.after e, h0⟩ (fun k σ' H' hk ⟨F', es', o', s', x', E', O', i'⟩ => ?_) fun σ' H' ⟨F', es', o', s', x', E', O', i'⟩ => kn σ' F' H' es' o' x' (e.f.trans s') E' O' (hd es' o' i')
        exact turn_ s' x' (E'.set i (.int _)) (O'.set hij _) kr (hs k es' o' (by omega) i')
/-- over a list of data -/
theorem sd_forL {i : Nat} {ds : List PyData} (h : Ed K tl es (.list ds)) (hij : i ≠ j) (I : Nat → NP) (h0 : I 0 es o)
    (hs : ∀ (k : Nat) d es1 o1, ds[k]? = some d → I k es1 o1 → Sd K j t (es1.set i (some d)) o1 (I (k + 1)) R) (hd : ∀ es1 o1, I ds.length es1 o1 → N es1 o1) :
    Sd K j (tFor (iList K tl) (gName i) t) es o N R := fun F0 H0 σ F H D x E O kn kr =>
  h σ F H x.s E _ fun v F2 H2 d e hdn p => by
    subst p
    obtain ⟨a, xs, rfl, ha, hall⟩ := hdn.list_
    refine ⟨a, rfl, ⟨xs, SqL.of (e.s _ _ ha)⟩, ?_⟩
    refine for_list (K := K) (a := a) (xs := xs) (Turns K j F0 H0 F2 I)
      ⟨F2, es, o, .refl _, x.trans e, E.up e.f, O.after e, h0⟩ (fun k σ' H' _ ⟨F', es', o', s', x', _⟩ => SqL.of (x'.s _ _ (s' _ _ ha))) (fun k y σ' H' hk ⟨F', es', o', s', x', E', O', i'⟩ => ?_)
      fun σ' H' ⟨F', es', o', s', x', E', O', i'⟩ => kn σ' F' H' es' o' x' (e.f.trans s') E' O' (hd es' o' (by rw [← hall.len]; exact i'))
    obtain ⟨d, hdk, hdv⟩ := (hall.up s').get' hk
    exact turn_ s' x' (E'.set i hdv) (O'.set hij _) kr (hs k d es' o' hdk i')
/-- over a list of pairs -/
theorem sd_forL2 {i1 i2 : Nat} {ds : List PyData} {f g : PyData → PyData} (h : Ed K tl es (.list ds)) (hp : ∀ d, d ∈ ds → d = .tuple [f d, g d]) (hi1 : i1 ≠ j) (hi2 : i2 ≠ j) (I : Nat → NP) (h0 : I 0 es o)
    (hs : ∀ (k : Nat) d es1 o1, ds[k]? = some d → I k es1 o1 → Sd K j t ((es1.set i1 (some (f d))).set i2 (some (g d))) o1 (I (k + 1)) R) (hd : ∀ es1 o1, I ds.length es1 o1 → N es1 o1) :
    Sd K j (tFor (iList K tl) (gTup K 2 (gCons (gName i1) (gCons (gName i2) gNil))) t) es o N R := fun F0 H0 σ F H D x E O kn kr =>
  h σ F H x.s E _ fun v F2 H2 d e hdn p => by
    subst p
    obtain ⟨a, xs, rfl, ha, hall⟩ := hdn.list_
    refine ⟨a, rfl, ⟨xs, SqL.of (e.s _ _ ha)⟩, ?_⟩
    refine for_list (K := K) (a := a) (xs := xs) (Turns K j F0 H0 F2 I)
      ⟨F2, es, o, .refl _, x.trans e, E.up e.f, O.after e, h0⟩ (fun k σ' H' _ ⟨F', es', o', s', x', _⟩ => SqL.of (x'.s _ _ (s' _ _ ha))) (fun k y σ' H' hk ⟨F', es', o', s', x', E', O', i'⟩ => ?_)
      fun σ' H' ⟨F', es', o', s', x', E', O', i'⟩ => kn σ' F' H' es' o' x' (e.f.trans s') E' O' (hd es' o' (by rw [← hall.len]; exact i'))
    obtain ⟨d, hdk, hdv⟩ := (hall.up s').get' hk
    have q := hdv
    rw [hp d (List.mem_of_getElem? hdk)] at q
    exact g_tup2 x'.s q fun v1 v2 q1 q2 => turn_ s' x' ((E'.set i1 q1).set i2 q2) ((O'.set hi1 _).set hi2 _) kr (hs k d es' o' hdk i')
/-- over a tuple -/
theorem sd_forT {i : Nat} {ds : List PyData} (h : Ep K tl es (fun d => d = .tuple ds ∨ ∃ xs : List Str, d = namesD (xs.map PyData.str) ∧ ds = xs.map PyData.str)) (hij : i ≠ j) (I : Nat → NP) (h0 : I 0 es o)
    (hs : ∀ (k : Nat) d es1 o1, ds[k]? = some d → I k es1 o1 → Sd K j t (es1.set i (some d)) o1 (I (k + 1)) R) (hd : ∀ es1 o1, I ds.length es1 o1 → N es1 o1) :
    Sd K j (tFor (iTup K tl) (gName i) t) es o N R := fun F0 H0 σ F H D x E O kn kr =>
  h σ F H x.s E _ fun v F2 H2 d e hdn p => by
    have hdn : Dn K F2 v (.tuple ds) := by
      rcases p with rfl | ⟨xs, rfl, rfl⟩
      · exact hdn
      · exact hdn.tup_of_names
    obtain ⟨a, xs, rfl, ha, hall⟩ := hdn.tuple_
    refine ⟨a, rfl, ⟨xs, same_sqt e.s ha⟩, ?_⟩
    refine for_tup (K := K) (a := a) (xs := xs) (Turns K j F0 H0 F2 I)
      ⟨F2, es, o, .refl _, x.trans e, E.up e.f, O.after e, h0⟩ (fun k σ' H' _ ⟨F', es', o', s', x', _⟩ => same_sqt x'.s (same_sqt s' ha)) (fun k y σ' H' hk ⟨F', es', o', s', x', E', O', i'⟩ => ?_)
      fun σ' H' ⟨F', es', o', s', x', E', O', i'⟩ => kn σ' F' H' es' o' x' (e.f.trans s') E' O' (hd es' o' (by rw [← hall.len]; exact i'))
    obtain ⟨d, hdk, hdv⟩ := (hall.up s').get' hk
    exact turn_ s' x' (E'.set i hdv) (O'.set hij _) kr (hs k d es' o' hdk i')

/-! ### the def's own list -/
/-- what leans on no object -/
def scal0 : PyData → Bool
  | .none => true
  | .bool _ => true
  | .int _ => true
  | .str _ => true
  | _ => false
theorem Dn.scal {F F' : Hp} {v : V} {d : PyData} (h : Dn K F v d) (s : scal0 d = true) : Dn K F' v d := by
  cases h with
  | non => exact .non
  | bl b => exact .bl b
  | int i => exact .int i
  | str x => exact .str x
  | lst _ _ => cases s
  | tup _ _ => cases s
  | purse _ => cases s
  | script _ _ => cases s
  | names _ _ _ => cases s
def without (F : Hp) (a : Addr) : Hp := fun b => if b = a then none else F b
theorem without_ne {F : Hp} {a b : Addr} (h : b ≠ a) : without F a b = F b := if_neg h
theorem without_same {F : Hp} {a : Addr} : without F a a = none := if_pos rfl
/-- the own list looked at: as if frozen -/
theorem view {F0 H0 F H : Hp} {σ : L2.St} {ds : List PyData} (x : Ext F0 H0 F H) (E : EnvOk K F σ es) (O : Own K F H H0 σ j (some ds)) :
    ∃ F', Same F F' ∧ Same F' H ∧ EnvOk K F' σ (es.set j (some (.list ds))) ∧
      ∀ F2' H2, Ext F' H F2' H2 → ∃ F2, Ext F0 H0 F2 H2 ∧ Same F F2 ∧ Own K F2 H2 H0 σ j (some ds) := by
  obtain ⟨a, vs, h1, h2, h3, h4, h5⟩ := O
  have sF : Same F (upd F a (.lst vs)) := fun b u q => by rw [upd_ne (ne_of_none q h3)]; exact q
  have sH : Same (upd F a (.lst vs)) H := fun b u q => by
    by_cases e : b = a
    · subst e; rw [upd_same] at q; rw [h4]; exact q
    · rw [upd_ne e] at q; exact x.s _ _ q
  refine ⟨upd F a (.lst vs), sF, sH, ⟨by rw [List.length_set]; exact E.len, fun i d he => ?_⟩, fun F2' H2 e => ⟨without F2' a, ⟨?_, ?_, x.h.trans e.h, ?_⟩, ?_, a, vs, h1, h2, without_same, e.h _ _ h4, ?_⟩⟩
  · by_cases hj : j = i
    · subst hj
      have hl : j < es.length := by
        have := (List.getElem?_eq_some_iff.mp he).1
        rw [List.length_set] at this
        exact this
      rw [List.getElem?_set_self hl] at he
      cases he
      exact ⟨_, h1, .lst upd_same (h5.up sF)⟩
    · rw [List.getElem?_set_ne hj] at he
      obtain ⟨v, q1, q2⟩ := E.at_ i d he
      exact ⟨v, q1, q2.up sF⟩
  · intro b u q
    have q' := x.f _ _ q
    rw [without_ne (ne_of_none q' h3)]
    exact e.f _ _ (sF _ _ q')
  · intro b u q
    by_cases hb : b = a
    · subst hb; rw [without_same] at q; cases q
    · rw [without_ne hb] at q; exact e.s _ _ q
  · intro b q1 q2
    by_cases hb : b = a
    · subst hb; exact without_same
    · rw [without_ne hb]
      refine e.n b (ne_none_of x.h q1) ?_
      rw [upd_ne hb]
      exact x.n b q1 q2
  · intro b u q
    rw [without_ne (ne_of_none q h3)]
    exact e.f _ _ (sF _ _ q)
  · refine h5.up fun b u q => ?_
    rw [without_ne (ne_of_none q h3)]
    exact e.f _ _ (sF _ _ q)
/-- the own list is left alone from here on -/
theorem sd_freeze {ds : List PyData} (h : Sd K j t (es.set j (some (.list ds))) none N R) : Sd K j t es (some ds) N R := fun F0 H0 σ F H D x E O kn kr => by
  obtain ⟨F', s1, s2, E', _⟩ := view x E O
  obtain ⟨a, vs, h1, h2, h3, h4, h5⟩ := O
  -- F' with the list in it
  have sF : Same F (upd F a (.lst vs)) := fun b u q => by rw [upd_ne (ne_of_none q h3)]; exact q
  have sH : Same (upd F a (.lst vs)) H := fun b u q => by
    by_cases e : b = a
    · subst e; rw [upd_same] at q; rw [h4]; exact q
    · rw [upd_ne e] at q; exact x.s _ _ q
  have x' : Ext F0 H0 (upd F a (.lst vs)) H := ⟨x.f.trans sF, sH, x.h, fun b q1 q2 => by
    have hb : b ≠ a := fun e => q1 (by rw [e]; exact h2)
    rw [upd_ne hb]
    exact x.n b q1 q2⟩
  have E2 : EnvOk K (upd F a (.lst vs)) σ (es.set j (some (.list ds))) := by
    refine ⟨by rw [List.length_set]; exact E.len, fun i d he => ?_⟩
    by_cases hj : j = i
    · subst hj
      have hl : j < es.length := by
        have := (List.getElem?_eq_some_iff.mp he).1
        rw [List.length_set] at this
        exact this
      rw [List.getElem?_set_self hl] at he
      cases he
      exact ⟨_, h1, .lst upd_same (h5.up sF)⟩
    · rw [List.getElem?_set_ne hj] at he
      obtain ⟨v, q1, q2⟩ := E.at_ i d he
      exact ⟨v, q1, q2.up sF⟩
  exact h F0 H0 σ _ H D x' E2 trivial (fun σ2 F2 H2 es2 o2 x2 y2 => kn σ2 F2 H2 es2 o2 x2 (sF.trans y2)) kr
theorem sd_ifV {ds : List PyData} {B : Bool → Prop} (h : Tp K tt (es.set j (some (.list ds))) B) (h1 : B true → Sd K j t es (some ds) N R) (h2 : B false → Sd K j u es (some ds) N R) : Sd K j (tIfS tt t u) es (some ds) N R := fun F0 H0 σ F H D x E O kn kr => by
  obtain ⟨F', s1, s2, E', back⟩ := view x E O
  refine h σ F' H s2 E' _ fun b F2' H2 e p => ?_
  obtain ⟨F2, x2, y2, O2⟩ := back F2' H2 e
  have kn' : ∀ σ3 F3 H3 es3 o3, Ext F0 H0 F3 H3 → Same F2 F3 → EnvOk K F3 σ3 es3 → Own K F3 H3 H0 σ3 j o3 → N es3 o3 → D.nx σ3 H3 := fun σ3 F3 H3 es3 o3 x3 y3 => kn σ3 F3 H3 es3 o3 x3 (y2.trans y3)
  cases b with
  | true => exact h1 p F0 H0 σ F2 H2 D x2 (E.up y2) O2 kn' kr
  | false => exact h2 p F0 H0 σ F2 H2 D x2 (E.up y2) O2 kn' kr
theorem sd_asgV {i : Nat} {ds : List PyData} (h : Ep K te (es.set j (some (.list ds))) P) (hij : i ≠ j) (sc : ∀ d, P d → scal0 d = true) (k : ∀ d, P d → N (es.set i (some d)) (some ds)) : Sd K j (tAsg te (gName i)) es (some ds) N R := fun F0 H0 σ F H D x E O kn kr => by
  obtain ⟨F', s1, s2, E', back⟩ := view x E O
  refine h σ F' H s2 E' _ fun v F2' H2 d e hd p => ?_
  obtain ⟨F2, x2, y2, O2⟩ := back F2' H2 e
  exact kn _ F2 H2 _ _ x2 y2 ((E.up y2).set i (hd.scal (sc d p))) (O2.set hij _) (k d p)
/-- a new list becomes the own one -/
def EpF (K : PySem.W.Frag) (te : TE) (es : Env) (P : List PyData → Prop) : Prop := ∀ σ F H, Same F H → EnvOk K F σ es → ∀ Q : VK,
  (∀ p F2 H2 vs ds, Ext F H F2 H2 → H p = none → F2 p = none → H2 p = some (.lst vs) → DnAll K F2 vs ds → P ds → Q (.ref p) H2) → te σ H Q
theorem sd_own {P : List PyData → Prop} (h : EpF K te es P) (hj : j < es.length) (k : ∀ ds, P ds → N (es.set j none) (some ds)) : Sd K j (tAsg te (gName j)) es none N R := fun F0 H0 σ F H D x E O kn kr =>
  h σ F H x.s E _ fun p F2 H2 vs ds e hp hf hh hds pd => kn _ F2 H2 _ (some ds) (x.trans e) e.f ((E.up e.f).forget j _)
    ⟨p, vs, by rw [List.getElem?_set_self (by rw [E.len]; exact hj)], x.h.free hp, hf, hh, hds⟩ (k ds pd)
theorem ef_lst {PA : List PyData → Prop} (h : EpA K tA es PA) (hz : ∀ ds, PA ds → ds.length ≤ 1000) : EpF K (tLst tA) es PA := fun σ F H s E Q q =>
  h σ F H s E _ fun vs F1 H1 ds e1 hds p => by
    have hl : vs.length ≤ 1000 := by rw [hds.len]; exact hz ds p
    refine ⟨Nat.le_of_lt (small1000 hl), fun a ha => ?_⟩
    have hf : F1 a = none := e1.s.free ha
    refine q a F1 _ vs ds ⟨e1.f, fun b u w => ?_, fun b u w => ?_, e1.n⟩ (e1.h.free ha) hf upd_same hds p
    · rw [upd_ne (ne_of_none w hf)]; exact e1.s _ _ w
    · rw [upd_ne (ne_of_none (e1.h _ _ w) ha)]; exact e1.h _ _ w
theorem sd_app {ds : List PyData} (h : Ep K te es P) (hz : ds.length ≤ 1000) (k : ∀ d, P d → N es (some (ds ++ [d]))) : Sd K j (tDrop (tBM K "list" rAppend (tVar j) (tCons te tNil))) es (some ds) N R := fun F0 H0 σ F H D x E O kn kr => by
  obtain ⟨a, vs, h1, h2, h3, h4, h5⟩ := id O
  refine ⟨.ref a, h1, .inl ⟨rfl, _, SqL.of h4⟩, h σ F H x.s E _ fun v F2 H2 d e hd p => ?_⟩
  obtain ⟨a', vs', h1', h2', h3', h4', h5'⟩ := O.after e
  have ea : a' = a := by
    rw [h1] at h1'
    injection h1' with z
    injection z with z
    injection z with z
    exact z.symm
  subst ea
  have hl : vs'.length < sizeLine := small1000 (by rw [h5'.len]; exact hz)
  refine ⟨a', vs', v, rfl, rfl, h4', hl, ?_⟩
  have x2 := x.trans e
  refine kn σ F2 _ es (some (ds ++ [d])) ⟨x2.f, fun b u w => ?_, fun b u w => ?_, x2.n⟩ e.f (E.up e.f) ⟨a', _, h1, h2, h3', upd_same, h5'.append (.cons hd .nil)⟩ (k d p)
  · rw [upd_ne (ne_of_none w h3')]; exact x2.s _ _ w
  · rw [upd_ne (ne_of_none w h2)]; exact x2.h _ _ w
theorem ixN_nat {n k : Nat} (h : k < n) : ixN n (k : Int) = some k := by
  unfold ixN
  have h0 : (0 : Int) ≤ (k : Int) := by omega
  have h1 : (k : Int) < (n : Int) := by omega
  rw [if_pos h0, if_pos h1]
  rfl
theorem sd_store {ds : List PyData} {k : Nat} (h : Ep K te (es.set j (some (.list ds))) P) (sc : ∀ d, P d → scal0 d = true) (hi : Ed K ti es (.int (k : Int))) (hk : k < ds.length) (kk : ∀ d, P d → N es (some (ds.set k d))) :
    Sd K j (tAsg te (gSub (tVar j) ti rSetL)) es (some ds) N R := fun F0 H0 σ F H D x E O kn kr => by
  obtain ⟨F', s1, s2, E', back⟩ := view x E O
  refine h σ F' H s2 E' _ fun v F2' H2 d e hd p => ?_
  obtain ⟨F2, x2, y2, O2⟩ := back F2' H2 e
  obtain ⟨a0, _, g1, _⟩ := id O2
  refine ⟨.ref a0, g1, hi σ F2 H2 x2.s (E.up y2) _ fun w F3 H3 di e3 hdi pi => ?_⟩
  subst pi
  have := hdi.int_
  subst this
  obtain ⟨a, vs, h1, h2, h3, h4, h5⟩ := O2.after e3
  have ea : a = a0 := by
    rw [g1] at h1
    injection h1 with z
    injection z with z
    injection z with z
    exact z.symm
  subst ea
  have x3 := x2.trans e3
  refine ⟨a, vs, _, k, rfl, rfl, h4, ixN_nat (by rw [h5.len]; exact hk), ?_⟩
  refine kn σ F3 _ es (some (ds.set k d)) ⟨x3.f, fun b u w => ?_, fun b u w => ?_, x3.n⟩ (y2.trans e3.f) (E.up (y2.trans e3.f)) ⟨a, _, h1, h2, h3, upd_same, h5.set (hd.scal (sc d p)) k⟩ (kk d p)
  · rw [upd_ne (ne_of_none w h3)]; exact x3.s _ _ w
  · rw [upd_ne (ne_of_none w h2)]; exact x3.h _ _ w
end
end
end Wf


/-! Comprehensions over plain data. -/
namespace Wf
open PySem PySem.Spec PyProof.Rows L2
section
variable {K : PySem.W.Frag} {es : Env} {te tl ta : TE} {tt : TT} {tA : TA} {P PT : PyData → Prop}
/-- the list that grows, between the turns -/
def Grow (K : PySem.W.Frag) (F1 H1 : Hp) (D : Addr) (PP : Nat → List PyData → Prop) (k : Nat) (H : Hp) : Prop :=
  ∃ F vs ds, Ext F1 H1 F H ∧ F D = none ∧ H D = some (.lst vs) ∧ DnAll K F vs ds ∧ ds.length ≤ k ∧ PP k ds
theorem grow_start {F1 H1 : Hp} {D : Addr} {PP : Nat → List PyData → Prop} (s : Same F1 H1) (hD : H1 D = none) (h0 : PP 0 []) : Grow K F1 H1 D PP 0 (upd H1 D (.lst [])) := by
  have hf : F1 D = none := s.free hD
  refine ⟨F1, [], [], ⟨.refl _, fun b u w => ?_, fun b u w => ?_, fun _ _ h => h⟩, hf, upd_same, .nil, Nat.le_refl _, h0⟩
  · rw [upd_ne (ne_of_none w hf)]; exact s _ _ w
  · rw [upd_ne (ne_of_none w hD)]; exact w
theorem grow_end {F1 H1 H : Hp} {D : Addr} {PP : Nat → List PyData → Prop} {n : Nat} {Q : VK} (hD : H1 D = none) (q : Res K F1 H1 P Q) (w : ∀ ds, ds.length ≤ n → PP n ds → P (.list ds)) (g : Grow K F1 H1 D PP n H) : Q (.ref D) H := by
  obtain ⟨F, vs, ds, x, hf, hh, hds, hl, pp⟩ := g
  have sF : Same F (upd F D (.lst vs)) := fun b u z => by rw [upd_ne (ne_of_none z hf)]; exact z
  refine q (.ref D) (upd F D (.lst vs)) H (.list ds) ⟨x.f.trans sF, fun b u z => ?_, x.h, fun b h1 h2 => ?_⟩ (.lst upd_same (hds.up sF)) (w ds hl pp)
  · by_cases e : b = D
    · subst e; rw [upd_same] at z; rw [hh]; exact z
    · rw [upd_ne e] at z; exact x.s _ _ z
  · have hb : b ≠ D := fun e => h1 (by rw [e]; exact hD)
    rw [upd_ne hb]
    exact x.n b h1 h2
theorem grow_turn {F1 H1 F H : Hp} {D : Addr} {PP : Nat → List PyData → Prop} {k : Nat} {σ2 : L2.St} {es2 : Env} {vs : List V} {ds : List PyData} {B : Bool → Prop} (hD : H1 D = none) (x : Ext F1 H1 F H) (hf : F D = none) (hh : H D = some (.lst vs)) (hds : DnAll K F vs ds) (hl : ds.length ≤ k) (hk : k < 1000)
    (E : EnvOk K F σ2 es2) (ht : Tp K tt es2 B) (he : B true → Ep K te es2 PT) (h1 : ∀ d, B true → PT d → PP (k + 1) (ds ++ [d])) (h2 : B false → PP (k + 1) ds) :
    tt σ2 H fun b H3 => if b = true then te σ2 H3 fun y H4 => ∃ acc, H4 D = some (.lst acc) ∧ acc.length < sizeLine ∧ Grow K F1 H1 D PP (k + 1) (upd H4 D (.lst (acc ++ [y]))) else Grow K F1 H1 D PP (k + 1) H3 :=
  ht σ2 F H x.s E _ fun b F3 H3 e3 pb => by
    have nD : H D ≠ none := by rw [hh]; exact fun z => nomatch z
    have hf3 : F3 D = none := e3.n D nD hf
    have hh3 : H3 D = some (.lst vs) := e3.h _ _ hh
    cases b with
    | false =>
      show Grow K F1 H1 D PP (k + 1) H3
      exact ⟨F3, vs, ds, x.trans e3, hf3, hh3, hds.up e3.f, by omega, h2 pb⟩
    | true =>
      show te σ2 H3 fun y H4 => ∃ acc, H4 D = some (.lst acc) ∧ acc.length < sizeLine ∧ Grow K F1 H1 D PP (k + 1) (upd H4 D (.lst (acc ++ [y])))
      refine he pb σ2 F3 H3 e3.s (E.up e3.f) _ fun y F4 H4 d e4 hd pd => ?_
      have hf4 : F4 D = none := e4.n D (ne_none_of e3.h nD) hf3
      have hh4 : H4 D = some (.lst vs) := e4.h _ _ hh3
      have x4 := (x.trans e3).trans e4
      refine ⟨vs, hh4, small1000 (by rw [hds.len]; omega), F4, vs ++ [y], ds ++ [d], ⟨x4.f, fun b u w => ?_, fun b u w => ?_, x4.n⟩, hf4, upd_same, ((hds.up e3.f).up e4.f).append (.cons hd .nil), ?_, h1 d pb pd⟩
      · rw [upd_ne (ne_of_none w hf4)]; exact x4.s _ _ w
      · rw [upd_ne (ne_of_none w hD)]; exact x4.h _ _ w
      · rw [List.length_append, List.length_singleton]; omega
theorem wipe_in {σ : L2.St} {vs : List Nat} {i : Nat} (hi : i ∈ vs) (x : Option V) : wipe ((wipe σ vs).set i x) vs = wipe σ vs := wipe_set hi x (wipe_wipe σ vs)
theorem wipe_in2 {σ : L2.St} {vs : List Nat} {i i2 : Nat} (hi : i ∈ vs) (hi2 : i2 ∈ vs) (x y : Option V) : wipe (((wipe σ vs).set i x).set i2 y) vs = wipe σ vs := wipe_set hi2 y (wipe_in hi x)
section
variable {i i2 : Nat} {vs : List Nat} (PP : Nat → List PyData → Prop) {B : Nat → Bool → Prop} {PI : Nat → PyData → Prop}
/-- over a range -/
theorem e_lcR {n : Int} (h : EdA K tA es [.int n]) (hn : -1000 ≤ n ∧ n ≤ 1000) (hi : i ∈ vs) (h0 : PP 0 [])
    (ht : ∀ k : Nat, (k : Int) < n → Tp K tt ((wipeE es vs).set i (some (.int (k : Int)))) (B k)) (he : ∀ k : Nat, (k : Int) < n → B k true → Ep K te ((wipeE es vs).set i (some (.int (k : Int)))) (PI k))
    (h1 : ∀ (k : Nat) ds d, (k : Int) < n → PP k ds → B k true → PI k d → PP (k + 1) (ds ++ [d])) (h2 : ∀ (k : Nat) ds, (k : Int) < n → PP k ds → B k false → PP (k + 1) ds) (w : ∀ ds, ds.length ≤ n.toNat → PP n.toNat ds → P (.list ds)) :
    Ep K (tLc (iRng1 tA) (gName i) tt te vs) es P := fun σ F H s E Q q =>
  h σ F H s E _ fun us F1 H1 ds e1 hds p => by
    subst p
    cases hds with
    | cons q1 q2 =>
      cases q2
      have := q1.int_
      subst this
      refine ⟨n, rfl, by omega, by omega, fun D hD => ?_⟩
      refine lc_range (lo := 0) (n := n.toNat) (Grow K F1 H1 D PP) (grow_start e1.s hD h0) (fun k H' hk ⟨F', vs', ds', x, hf, hh, hds, hl, pp⟩ => ?_) fun H' g => grow_end hD (q.after e1) w g
      have e0 : (0 : Int) + (k : Int) = (k : Int) := Int.zero_add _
      have hk' : (k : Int) < n := by omega
      rw [e0]
      refine ⟨wipe_in hi _, ?_⟩
      exact grow_turn hD x hf hh hds hl (by omega) ((((E.up e1.f).up x.f).wipe vs).set i (.int _)) (ht k hk') (he k hk') (fun d => h1 k ds' d hk' pp) (h2 k ds' hk' pp)
/-- over a list -/
theorem e_lcL {xs : List PyData} (h : Ed K tl es (.list xs)) (hz : xs.length ≤ 1000) (hi : i ∈ vs) (h0 : PP 0 [])
    (ht : ∀ (k : Nat) x, xs[k]? = some x → Tp K tt ((wipeE es vs).set i (some x)) (B k)) (he : ∀ (k : Nat) x, xs[k]? = some x → B k true → Ep K te ((wipeE es vs).set i (some x)) (PI k))
    (h1 : ∀ (k : Nat) x ds d, xs[k]? = some x → PP k ds → B k true → PI k d → PP (k + 1) (ds ++ [d])) (h2 : ∀ (k : Nat) x ds, xs[k]? = some x → PP k ds → B k false → PP (k + 1) ds) (w : ∀ ds, ds.length ≤ xs.length → PP xs.length ds → P (.list ds)) :
    Ep K (tLc (iList K tl) (gName i) tt te vs) es P := fun σ F H s E Q q =>
  h σ F H s E _ fun v F1 H1 d1 e1 hd p => by
    subst p
    obtain ⟨a, ws, rfl, ha, hall⟩ := hd.list_
    refine ⟨a, rfl, ⟨ws, SqL.of (e1.s _ _ ha)⟩, fun D hD => ?_⟩
    refine lc_list (K := K) (a := a) (xs := ws) (Grow K F1 H1 D PP) (grow_start e1.s hD h0) (fun k H' _ ⟨F', _, _, x, _⟩ => SqL.of (x.s _ _ (x.f _ _ ha))) (fun k y H' hk ⟨F', vs', ds', x, hf, hh, hds, hl, pp⟩ => ?_)
      fun H' g => grow_end hD (q.after e1) w (by rw [← hall.len]; exact g)
    obtain ⟨z, hz1, hz2⟩ := (hall.up x.f).get' hk
    have hkl : k < 1000 := by have := (List.getElem?_eq_some_iff.mp hz1).1; omega
    refine ⟨wipe_in hi _, ?_⟩
    exact grow_turn hD x hf hh hds hl hkl ((((E.up e1.f).up x.f).wipe vs).set i hz2) (ht k z hz1) (he k z hz1) (fun d => h1 k z ds' d hz1 pp) (h2 k z ds' hz1 pp)
/-- over a list of pairs -/
theorem e_lcL2 {xs : List PyData} {f g : PyData → PyData} (h : Ed K tl es (.list xs)) (hp : ∀ d, d ∈ xs → d = .tuple [f d, g d]) (hz : xs.length ≤ 1000) (hi : i ∈ vs) (hi2 : i2 ∈ vs) (h0 : PP 0 [])
    (ht : ∀ (k : Nat) x, xs[k]? = some x → Tp K tt (((wipeE es vs).set i (some (f x))).set i2 (some (g x))) (B k)) (he : ∀ (k : Nat) x, xs[k]? = some x → B k true → Ep K te (((wipeE es vs).set i (some (f x))).set i2 (some (g x))) (PI k))
    (h1 : ∀ (k : Nat) x ds d, xs[k]? = some x → PP k ds → B k true → PI k d → PP (k + 1) (ds ++ [d])) (h2 : ∀ (k : Nat) x ds, xs[k]? = some x → PP k ds → B k false → PP (k + 1) ds) (w : ∀ ds, ds.length ≤ xs.length → PP xs.length ds → P (.list ds)) :
    Ep K (tLc (iList K tl) (gTup K 2 (gCons (gName i) (gCons (gName i2) gNil))) tt te vs) es P := fun σ F H s E Q q =>
  h σ F H s E _ fun v F1 H1 d1 e1 hd p => by
    subst p
    obtain ⟨a, ws, rfl, ha, hall⟩ := hd.list_
    refine ⟨a, rfl, ⟨ws, SqL.of (e1.s _ _ ha)⟩, fun D hD => ?_⟩
    refine lc_list (K := K) (a := a) (xs := ws) (Grow K F1 H1 D PP) (grow_start e1.s hD h0) (fun k H' _ ⟨F', _, _, x, _⟩ => SqL.of (x.s _ _ (x.f _ _ ha))) (fun k y H' hk ⟨F', vs', ds', x, hf, hh, hds, hl, pp⟩ => ?_)
      fun H' g => grow_end hD (q.after e1) w (by rw [← hall.len]; exact g)
    obtain ⟨z, hz1, hz2⟩ := (hall.up x.f).get' hk
    have hkl : k < 1000 := by have := (List.getElem?_eq_some_iff.mp hz1).1; omega
    have hz2' := hz2
    rw [hp z (List.mem_of_getElem? hz1)] at hz2'
    refine g_tup2 x.s hz2' fun v1 v2 q1 q2 => ⟨wipe_in2 hi hi2 _ _, ?_⟩
    exact grow_turn hD x hf hh hds hl hkl (((((E.up e1.f).up x.f).wipe vs).set i q1).set i2 q2) (ht k z hz1) (he k z hz1) (fun d => h1 k z ds' d hz1 pp) (h2 k z ds' hz1 pp)
/-- over a tuple -/
theorem e_lcT {xs : List PyData} (h : Ep K tl es (fun d => d = .tuple xs ∨ ∃ ys : List Str, d = namesD (ys.map PyData.str) ∧ xs = ys.map PyData.str)) (hz : xs.length ≤ 1000) (hi : i ∈ vs) (h0 : PP 0 [])
    (ht : ∀ (k : Nat) x, xs[k]? = some x → Tp K tt ((wipeE es vs).set i (some x)) (B k)) (he : ∀ (k : Nat) x, xs[k]? = some x → B k true → Ep K te ((wipeE es vs).set i (some x)) (PI k))
    (h1 : ∀ (k : Nat) x ds d, xs[k]? = some x → PP k ds → B k true → PI k d → PP (k + 1) (ds ++ [d])) (h2 : ∀ (k : Nat) x ds, xs[k]? = some x → PP k ds → B k false → PP (k + 1) ds) (w : ∀ ds, ds.length ≤ xs.length → PP xs.length ds → P (.list ds)) :
    Ep K (tLc (iTup K tl) (gName i) tt te vs) es P := fun σ F H s E Q q =>
  h σ F H s E _ fun v F1 H1 d1 e1 hd p => by
    have hd : Dn K F1 v (.tuple xs) := by
      rcases p with rfl | ⟨ys, rfl, rfl⟩
      · exact hd
      · exact hd.tup_of_names
    obtain ⟨a, ws, rfl, ha, hall⟩ := hd.tuple_
    refine ⟨a, rfl, ⟨ws, same_sqt e1.s ha⟩, fun D hD => ?_⟩
    refine lc_tup (K := K) (a := a) (xs := ws) (Grow K F1 H1 D PP) (grow_start e1.s hD h0) (fun k H' _ ⟨F', _, _, x, _⟩ => same_sqt x.s (same_sqt x.f ha)) (fun k y H' hk ⟨F', vs', ds', x, hf, hh, hds, hl, pp⟩ => ?_)
      fun H' g => grow_end hD (q.after e1) w (by rw [← hall.len]; exact g)
    obtain ⟨z, hz1, hz2⟩ := (hall.up x.f).get' hk
    have hkl : k < 1000 := by have := (List.getElem?_eq_some_iff.mp hz1).1; omega
    refine ⟨wipe_in hi _, ?_⟩
    exact grow_turn hD x hf hh hds hl hkl ((((E.up e1.f).up x.f).wipe vs).set i hz2) (ht k z hz1) (he k z hz1) (fun d => h1 k z ds' d hz1 pp) (h2 k z ds' hz1 pp)
/-- over the signs of a text -/
theorem lc_str {x : Str} {g : TG} {tt : TT} {te : TE} {vs : List Nat} {σ : L2.St} {H1 : Hp} {D : Addr} {Qd : Hp → Prop} (Pv : Nat → Hp → Prop) (h0 : Pv 0 (upd H1 D (.lst [])))
    (hs : ∀ (i : Nat) c H, x.cps[i]? = some c → Pv i H → g (.str ⟨#[c]⟩) (wipe σ vs) H fun σ2 H2 => wipe σ2 vs = wipe σ vs ∧ tt σ2 H2 fun b H3 =>
      if b = true then te σ2 H3 fun y H4 => ∃ acc, H4 D = some (.lst acc) ∧ acc.length < sizeLine ∧ Pv (i + 1) (upd H4 D (.lst (acc ++ [y]))) else Pv (i + 1) H3) (hd : ∀ H, Pv x.cps.size H → Qd H) :
    ∃ W : Nat → Nat → Hp → Prop, (∃ m, W 0 m (upd H1 D (.lst []))) ∧ ∀ i m H, W i m H →
      ((Its x).stop i H ∧ Qd H) ∨ ((Its x).go i H ∧ ∃ Nx : Hp → Prop, (∀ H', Nx H' → ∃ m', m' < m ∧ W (i + 1) m' H') ∧ ∀ y H', (Its x).yld i H y H' → g y (wipe σ vs) H' fun σ2 H2 => wipe σ2 vs = wipe σ vs ∧ tt σ2 H2 fun b H3 =>
        if b = true then te σ2 H3 fun y H4 => ∃ acc, H4 D = some (.lst acc) ∧ acc.length < sizeLine ∧ Nx (upd H4 D (.lst (acc ++ [y]))) else Nx H3) := by
  refine ⟨fun i m H => m = x.cps.size - i ∧ i ≤ x.cps.size ∧ Pv i H, ⟨x.cps.size, by simp, Nat.zero_le _, h0⟩, ?_⟩
  rintro i m H ⟨rfl, hi, p⟩
  by_cases hlt : i < x.cps.size
  · refine .inr ⟨hlt, Pv (i + 1), fun H' p' => ⟨x.cps.size - (i + 1), by omega, rfl, hlt, p'⟩, fun y H' yy => ?_⟩
    obtain ⟨rfl, c, hc, rfl⟩ := yy
    exact hs i c _ hc p
  · have e : i = x.cps.size := by omega
    subst e
    exact .inl ⟨Nat.le_refl _, hd H p⟩
theorem e_lcS {x : Str} (h : Ed K tl es (.str x)) (hz : x.cps.size ≤ 1000) (hi : i ∈ vs) (h0 : PP 0 [])
    (ht : ∀ (k : Nat) c, x.cps[k]? = some c → Tp K tt ((wipeE es vs).set i (some (.str ⟨#[c]⟩))) (B k)) (he : ∀ (k : Nat) c, x.cps[k]? = some c → B k true → Ep K te ((wipeE es vs).set i (some (.str ⟨#[c]⟩))) (PI k))
    (h1 : ∀ (k : Nat) c ds d, x.cps[k]? = some c → PP k ds → B k true → PI k d → PP (k + 1) (ds ++ [d])) (h2 : ∀ (k : Nat) c ds, x.cps[k]? = some c → PP k ds → B k false → PP (k + 1) ds) (w : ∀ ds, ds.length ≤ x.cps.size → PP x.cps.size ds → P (.list ds)) :
    Ep K (tLc (iStr tl) (gName i) tt te vs) es P := fun σ F H s E Q q =>
  h σ F H s E _ fun v F1 H1 d1 e1 hd p => by
    subst p
    have := hd.str_
    subst this
    refine ⟨x, rfl, fun D hD => ?_⟩
    refine lc_str (Grow K F1 H1 D PP) (grow_start e1.s hD h0) (fun k c H' hk ⟨F', vs', ds', x', hf, hh, hds, hl, pp⟩ => ?_) fun H' g => grow_end hD (q.after e1) w g
    have hkl : k < 1000 := by have := (Array.getElem?_eq_some_iff.mp hk).1; omega
    refine ⟨wipe_in hi _, ?_⟩
    exact grow_turn hD x' hf hh hds hl hkl ((((E.up e1.f).up x'.f).wipe vs).set i (.str _)) (ht k c hk) (he k c hk) (fun d => h1 k c ds' d hk pp) (h2 k c ds' hk pp)
end
theorem t_yes : Tp K tYes es fun b => b = true := fun σ F H s E Q q => q true F H (.refl s) rfl
/-! one answer each -/
theorem take_one {α : Type} {l : List α} {k : Nat} {x : α} (h : l[k]? = some x) : l.take (k + 1) = l.take k ++ [x] := by
  rw [List.take_add_one, h]; rfl
section
variable {i i2 : Nat} {vs : List Nat}
theorem e_lcRd {n : Int} {g : Nat → PyData} (h : EdA K tA es [.int n]) (hn : -1000 ≤ n ∧ n ≤ 1000) (hi : i ∈ vs) (he : ∀ k : Nat, (k : Int) < n → Ed K te ((wipeE es vs).set i (some (.int (k : Int)))) (g k)) :
    Ed K (tLc (iRng1 tA) (gName i) tYes te vs) es (.list ((List.range n.toNat).map g)) :=
  e_lcR (fun k ds => ds = (List.range k).map g) (B := fun _ b => b = true) (PI := fun k d => d = g k) h hn hi rfl (fun _ _ => t_yes) (fun k hk _ => he k hk)
    (fun k ds d _ e _ ed => by rw [e, ed, List.range_succ, List.map_append]; rfl) (fun _ _ _ _ z => nomatch z) fun ds _ e => by rw [e]
theorem e_lcRp {n : Int} {PI : Nat → PyData → Prop} (h : EdA K tA es [.int n]) (hn : -1000 ≤ n ∧ n ≤ 1000) (hi : i ∈ vs) (he : ∀ k : Nat, (k : Int) < n → Ep K te ((wipeE es vs).set i (some (.int (k : Int)))) (PI k)) :
    Ep K (tLc (iRng1 tA) (gName i) tYes te vs) es (fun d => ∃ ds, d = .list ds ∧ ds.length = n.toNat ∧ ∀ k x, ds[k]? = some x → PI k x) :=
  e_lcR (fun k ds => ds.length = k ∧ ∀ m x, ds[m]? = some x → PI m x) (B := fun _ b => b = true) (PI := PI) h hn hi ⟨rfl, fun _ _ z => by simp at z⟩ (fun _ _ => t_yes) (fun k hk _ => he k hk)
    (fun k ds d _ e _ ed => ⟨by rw [List.length_append, List.length_singleton, e.1], fun m x hx => by
      by_cases hm : m < ds.length
      · rw [List.getElem?_append_left hm] at hx; exact e.2 m x hx
      · rw [List.getElem?_append_right (by omega)] at hx
        have hm0 : m - ds.length = 0 := by
          have := (List.getElem?_eq_some_iff.mp hx).1
          simp at this; omega
        rw [hm0] at hx
        have : d = x := Option.some.inj hx
        have hk : m = k := by omega
        rw [hk, ← this]; exact ed⟩) (fun _ _ _ _ z => nomatch z) fun ds _ e => ⟨ds, rfl, e.1, e.2⟩
theorem e_lcLd {xs : List PyData} {g : PyData → PyData} (h : Ed K tl es (.list xs)) (hz : xs.length ≤ 1000) (hi : i ∈ vs) (he : ∀ x, x ∈ xs → Ed K te ((wipeE es vs).set i (some x)) (g x)) :
    Ed K (tLc (iList K tl) (gName i) tYes te vs) es (.list (xs.map g)) :=
  e_lcL (fun k ds => ds = (xs.take k).map g) (B := fun _ b => b = true) (PI := fun k d => ∀ x, xs[k]? = some x → d = g x) h hz hi rfl (fun _ _ _ => t_yes) (fun k x hx _ => (he x (List.mem_of_getElem? hx)).weak fun d e y hy => by rw [e, Option.some.inj (hx.symm.trans hy)])
    (fun k x ds d hx e _ ed => by rw [e, ed x hx, take_one hx, List.map_append]; rfl) (fun _ _ _ _ _ z => nomatch z) fun ds _ e => by rw [e, List.take_length]
theorem e_lcLp {xs : List PyData} {PI : Nat → PyData → Prop} (h : Ed K tl es (.list xs)) (hz : xs.length ≤ 1000) (hi : i ∈ vs) (he : ∀ (k : Nat) x, xs[k]? = some x → Ep K te ((wipeE es vs).set i (some x)) (PI k)) :
    Ep K (tLc (iList K tl) (gName i) tYes te vs) es (fun d => ∃ ds, d = .list ds ∧ ds.length = xs.length ∧ ∀ k x, ds[k]? = some x → PI k x) :=
  e_lcL (fun k ds => ds.length = k ∧ ∀ m x, ds[m]? = some x → PI m x) (B := fun _ b => b = true) (PI := PI) h hz hi ⟨rfl, fun _ _ z => by simp at z⟩ (fun _ _ _ => t_yes) (fun k x hx _ => he k x hx)
    (fun k x ds d _ e _ ed => ⟨by rw [List.length_append, List.length_singleton, e.1], fun m x hx => by
      by_cases hm : m < ds.length
      · rw [List.getElem?_append_left hm] at hx; exact e.2 m x hx
      · rw [List.getElem?_append_right (by omega)] at hx
        have hm0 : m - ds.length = 0 := by
          have := (List.getElem?_eq_some_iff.mp hx).1
          simp at this; omega
        rw [hm0] at hx
        have : d = x := Option.some.inj hx
        have hk : m = k := by omega
        rw [hk, ← this]; exact ed⟩) (fun _ _ _ _ _ z => nomatch z) fun ds _ e => ⟨ds, rfl, e.1, e.2⟩
theorem e_lcLf {xs : List PyData} {p : PyData → Bool} {g : PyData → PyData} (h : Ed K tl es (.list xs)) (hz : xs.length ≤ 1000) (hi : i ∈ vs) (ht : ∀ x, x ∈ xs → Td K tt ((wipeE es vs).set i (some x)) (p x)) (he : ∀ x, x ∈ xs → p x = true → Ed K te ((wipeE es vs).set i (some x)) (g x)) :
    Ed K (tLc (iList K tl) (gName i) tt te vs) es (.list ((xs.filter p).map g)) :=
  e_lcL (fun k ds => ds = ((xs.take k).filter p).map g) (B := fun k b => ∀ x, xs[k]? = some x → b = p x) (PI := fun k d => ∀ x, xs[k]? = some x → d = g x) h hz hi rfl
    (fun k x hx => (ht x (List.mem_of_getElem? hx)).weak fun b e y hy => by rw [e, Option.some.inj (hx.symm.trans hy)])
    (fun k x hx hb => (he x (List.mem_of_getElem? hx) (hb x hx).symm).weak fun d e y hy => by rw [e, Option.some.inj (hx.symm.trans hy)])
    (fun k x ds d hx e hb ed => by rw [e, ed x hx, take_one hx, List.filter_append, List.map_append, List.filter_cons_of_pos (hb x hx).symm]; rfl)
    (fun k x ds hx e hb => by rw [e, take_one hx, List.filter_append, List.map_append, List.filter_cons_of_neg (by rw [← hb x hx]; decide)]; simp) fun ds _ e => by rw [e, List.take_length]
theorem e_lcL2d {xs : List PyData} {f g r : PyData → PyData} (h : Ed K tl es (.list xs)) (hp : ∀ d, d ∈ xs → d = .tuple [f d, g d]) (hz : xs.length ≤ 1000) (hi : i ∈ vs) (hi2 : i2 ∈ vs) (he : ∀ x, x ∈ xs → Ed K te (((wipeE es vs).set i (some (f x))).set i2 (some (g x))) (r x)) :
    Ed K (tLc (iList K tl) (gTup K 2 (gCons (gName i) (gCons (gName i2) gNil))) tYes te vs) es (.list (xs.map r)) :=
  e_lcL2 (fun k ds => ds = (xs.take k).map r) (B := fun _ b => b = true) (PI := fun k d => ∀ x, xs[k]? = some x → d = r x) h hp hz hi hi2 rfl (fun _ _ _ => t_yes) (fun k x hx _ => (he x (List.mem_of_getElem? hx)).weak fun d e y hy => by rw [e, Option.some.inj (hx.symm.trans hy)])
    (fun k x ds d hx e _ ed => by rw [e, ed x hx, take_one hx, List.map_append]; rfl) (fun _ _ _ _ _ z => nomatch z) fun ds _ e => by rw [e, List.take_length]
theorem e_lcTd {xs : List PyData} {g : PyData → PyData} (h : Ep K tl es (fun d => d = .tuple xs ∨ ∃ ys : List Str, d = namesD (ys.map PyData.str) ∧ xs = ys.map PyData.str)) (hz : xs.length ≤ 1000) (hi : i ∈ vs) (he : ∀ x, x ∈ xs → Ed K te ((wipeE es vs).set i (some x)) (g x)) :
    Ed K (tLc (iTup K tl) (gName i) tYes te vs) es (.list (xs.map g)) :=
  e_lcT (fun k ds => ds = (xs.take k).map g) (B := fun _ b => b = true) (PI := fun k d => ∀ x, xs[k]? = some x → d = g x) h hz hi rfl (fun _ _ _ => t_yes) (fun k x hx _ => (he x (List.mem_of_getElem? hx)).weak fun d e y hy => by rw [e, Option.some.inj (hx.symm.trans hy)])
    (fun k x ds d hx e _ ed => by rw [e, ed x hx, take_one hx, List.map_append]; rfl) (fun _ _ _ _ _ z => nomatch z) fun ds _ e => by rw [e, List.take_length]
theorem e_lcTp {xs : List PyData} {PI : Nat → PyData → Prop} (h : Ep K tl es (fun d => d = .tuple xs ∨ ∃ ys : List Str, d = namesD (ys.map PyData.str) ∧ xs = ys.map PyData.str)) (hz : xs.length ≤ 1000) (hi : i ∈ vs) (he : ∀ (k : Nat) x, xs[k]? = some x → Ep K te ((wipeE es vs).set i (some x)) (PI k)) :
    Ep K (tLc (iTup K tl) (gName i) tYes te vs) es (fun d => ∃ ds, d = .list ds ∧ ds.length = xs.length ∧ ∀ k x, ds[k]? = some x → PI k x) :=
  e_lcT (fun k ds => ds.length = k ∧ ∀ m x, ds[m]? = some x → PI m x) (B := fun _ b => b = true) (PI := PI) h hz hi ⟨rfl, fun _ _ z => by simp at z⟩ (fun _ _ _ => t_yes) (fun k x hx _ => he k x hx)
    (fun k x ds d _ e _ ed => ⟨by rw [List.length_append, List.length_singleton, e.1], fun m x hx => by
      by_cases hm : m < ds.length
      · rw [List.getElem?_append_left hm] at hx; exact e.2 m x hx
      · rw [List.getElem?_append_right (by omega)] at hx
        have hm0 : m - ds.length = 0 := by
          have := (List.getElem?_eq_some_iff.mp hx).1
          simp at this; omega
        rw [hm0] at hx
        have : d = x := Option.some.inj hx
        have hk : m = k := by omega
        rw [hk, ← this]; exact ed⟩) (fun _ _ _ _ _ z => nomatch z) fun ds _ e => ⟨ds, rfl, e.1, e.2⟩
theorem e_lcTf {xs : List PyData} {p : PyData → Bool} {g : PyData → PyData} (h : Ed K tl es (.tuple xs)) (hz : xs.length ≤ 1000) (hi : i ∈ vs) (ht : ∀ x, x ∈ xs → Td K tt ((wipeE es vs).set i (some x)) (p x)) (he : ∀ x, x ∈ xs → p x = true → Ed K te ((wipeE es vs).set i (some x)) (g x)) :
    Ed K (tLc (iTup K tl) (gName i) tt te vs) es (.list ((xs.filter p).map g)) :=
  e_lcT (fun k ds => ds = ((xs.take k).filter p).map g) (B := fun k b => ∀ x, xs[k]? = some x → b = p x) (PI := fun k d => ∀ x, xs[k]? = some x → d = g x) (h.weak fun d e => .inl e) hz hi rfl
    (fun k x hx => (ht x (List.mem_of_getElem? hx)).weak fun b e y hy => by rw [e, Option.some.inj (hx.symm.trans hy)])
    (fun k x hx hb => (he x (List.mem_of_getElem? hx) (hb x hx).symm).weak fun d e y hy => by rw [e, Option.some.inj (hx.symm.trans hy)])
    (fun k x ds d hx e hb ed => by rw [e, ed x hx, take_one hx, List.filter_append, List.map_append, List.filter_cons_of_pos (hb x hx).symm]; rfl)
    (fun k x ds hx e hb => by rw [e, take_one hx, List.filter_append, List.map_append, List.filter_cons_of_neg (by rw [← hb x hx]; decide)]; simp) fun ds _ e => by rw [e, List.take_length]
theorem e_lcSd {x : Str} {g : Nat → PyData} (h : Ed K tl es (.str x)) (hz : x.cps.size ≤ 1000) (hi : i ∈ vs) (he : ∀ c, c ∈ x.cps.toList → Ed K te ((wipeE es vs).set i (some (.str ⟨#[c]⟩))) (g c)) :
    Ed K (tLc (iStr tl) (gName i) tYes te vs) es (.list (x.cps.toList.map g)) :=
  e_lcS (fun k ds => ds = (x.cps.toList.take k).map g) (B := fun _ b => b = true) (PI := fun k d => ∀ c, x.cps[k]? = some c → d = g c) h hz hi rfl (fun _ _ _ => t_yes)
    (fun k c hc _ => (he c (List.mem_of_getElem? (by rw [Array.getElem?_toList]; exact hc))).weak fun d e y hy => by rw [e, Option.some.inj (hc.symm.trans hy)])
    (fun k c ds d hc e _ ed => by rw [e, ed c hc, take_one (by rw [Array.getElem?_toList]; exact hc), List.map_append]; rfl) (fun _ _ _ _ _ z => nomatch z) fun ds _ e => by
      rw [e, List.take_of_length_le (by simp)]
end
end
end Wf


/-! Rules that the layer lacks, and each operation over plain data. -/
namespace Wf
open PySem PySem.Spec PyProof.Rows L2

/-! ### the text's own -/
section
variable {X : Cx}
/-- is, of None and truths, against a truth -/
def rIsX : R2 := fun x y H Q => ∃ b : Bool, y = .bl b ∧ (x = .non ∨ ∃ a, x = .bl a) ∧ Q (.bl (decide (x = .bl b))) H
theorem op_isX : OpR X (compareOp .Is) rIsX := by
  intro pins s σ H x y v u Q I rx ry h
  obtain ⟨b, rfl, hx, q⟩ := h
  cases (show u = Value.bool b from ry)
  rcases hx with rfl | ⟨a, rfl⟩
  · cases (show v = Value.none from rx)
    exact wpAny_is_other rfl (fun z => nomatch z) ⟨.bl false, H, I, rfl, q⟩
  · cases (show v = Value.bool a from rx)
    by_cases e : a = b
    · subst e
      exact wpAny_is_self rfl ⟨.bl true, H, I, rfl, by simpa using q⟩
    · exact wpAny_is_other rfl (fun z => e (Value.bool.inj z)) ⟨.bl false, H, I, rfl, by simpa [e] using q⟩
/-- one sign, so many times -/
def rMulS : R2 := fun x y H Q => ∃ (z : Str) (n : Int), x = .str z ∧ y = .int n ∧ z.length = 1 ∧ 2 ≤ n ∧ n ≤ 100 ∧ ∀ S : Str, S.length = n.toNat → Q (.str S) H
theorem foldl_len (c : Array Nat) : ∀ (k : Nat) (acc : Array Nat), ((List.replicate k c).foldl (· ++ ·) acc).size = acc.size + k * c.size
  | 0, acc => by simp
  | k + 1, acc => by
    rw [List.replicate_succ, List.foldl_cons, foldl_len c k, Array.size_append, Nat.add_mul]; omega
theorem op_mulS : OpR X (binaryOp .Mult) rMulS := by
  intro pins s σ H x y v u Q I rx ry h
  obtain ⟨z, n, rfl, rfl, hz, h1, h2, q⟩ := h
  obtain ⟨t, rfl⟩ := rx
  obtain ⟨t', rfl⟩ := ry
  have hc : (n == 1 || z.length == 0) = false := by
    have e1 : (n == 1) = false := beq_eq_false_iff_ne.mpr (by omega)
    rw [e1, hz]; rfl
  have hS : (⟨(List.replicate n.toNat z.cps).foldl (· ++ ·) #[]⟩ : Str).length = n.toNat := by
    show ((List.replicate n.toNat z.cps).foldl (· ++ ·) #[]).size = n.toNat
    have hz' : z.cps.size = 1 := hz
    rw [foldl_len, hz']; simp
  refine PySem.P.mul_str (by
    have e1 : decide (n < -(2 ^ 63 : Int)) = false := decide_eq_false (by omega)
    have e2 : decide (n ≥ 2 ^ 63) = false := decide_eq_false (by omega)
    rw [e1, e2]; rfl) (fun _ _ => ?_) (fun _ _ => ?_) ?_
  · rw [hz]
    have : (1 : Int) ≤ (2 ^ 63 - 1) / n := (Int.le_ediv_iff_mul_le (by omega)).mpr (by omega)
    show ¬ ((1 : Nat) : Int) > (2 ^ 63 - 1) / n
    omega
  · rw [hz, Nat.one_mul]
    refine decide_eq_false ?_
    have := sizeLine_eq
    omega
  · rw [if_neg (by omega), hc, if_neg Bool.false_ne_true]
    refine ⟨?_, ⟨.str _, H, I.tok _, ⟨_, rfl⟩, q _ hS⟩⟩
    show (⟨(List.replicate n.toNat z.cps).foldl (· ++ ·) #[]⟩ : Str).length ≤ sizeLine
    rw [hS]
    have := sizeLine_eq
    omega
/-- xs[i], for xs[i] op= e -/
def rGetL (K : PySem.W.Frag) : V → V → Hp → VK → Prop := fun o i H Q => ∃ (p : Addr) (xs : List V) (k : Nat) (v : V), o = .ref p ∧ i = .int (k : Int) ∧ SqL K H p xs ∧ xs[k]? = some v ∧ Q v H
theorem get_list : PGet X (rGetL X.K) := by
  intro pins s σ H o i ov iv Q I rx ry h
  obtain ⟨p, xs, k, z, rfl, rfl, hq, he, q⟩ := h
  cases rx
  obtain ⟨t, rfl⟩ := ry
  obtain ⟨its, r, pl, hz⟩ := I.list hq
  obtain ⟨w, ew, rw'⟩ := r.get he
  have hk := (List.getElem?_eq_some_iff.mp he).1
  have hn := line63
  exact PySem.wpAny_getItem_list pl.isList (Int.natCast_nonneg k) (by omega) (by simpa using ew) ⟨z, H, I, rw', q⟩
/-- t.index(x), t a tuple of the words -/
def tTIx (K : PySem.W.Frag) (to : TE) (t : TA) : TE := fun σ H Q => to σ H fun x H1 => (∃ a o xs, x = .ref a ∧ H1 a = some (.frz o (.tup xs)) ∧ o.dict = none) ∧
  t σ H1 fun vs H2 => ∃ p, ∃ ys : List Str, ∃ z j, x = .ref p ∧ vs = [.str z] ∧ SqT K H2 p (ys.map V.str) ∧ ys[j]? = some z ∧ (∀ m, m < j → ys[m]? ≠ some z) ∧ Q (.int (j : Nat)) H2
theorem pe_tix {o e : Expr} {es : List Expr} {to : TE} {t : TA} {apos cpos : Pos} (ho : PE X o to) (ha : PA X (e :: es) t)
    (hbase : attributeBase o "index" X.env (eval o X.env) = eval o X.env := by rfl)
    (hfew : ((backTo cpos (starEach (e :: es) X.env)).all (fun x => !x.1) && (backToKw cpos (keywordEach [] X.env)).all (fun x => x.1.isSome)
      && decide ((e :: es).length + ([] : List Keyword).length + (if ([] : List Keyword).isEmpty then 0 else 1) < 30)) = true := by rfl)
    (hline : (apos.endLine == cpos.line) = true := by rfl) (hs : starEach (e :: es) X.env = (false, eval e X.env) :: starEach es X.env := by rfl) (hplain : (backTo cpos (starEach es X.env)).any (·.1) = false := by rfl) :
    PE X (.Call (.Attribute o "index" apos) (e :: es) [] cpos) (tTIx X.K to t) := by
  refine ⟨fun pins s σ H Q I h => ?_⟩
  refine wpAny_Call_method_late hbase hfew hline rfl (thn (ho.run pins s σ H _ I h) fun v s1 ⟨x, H1, I1, r1, ty, q1⟩ => ?_)
  obtain ⟨a, ob, xs, rfl, hH, hd⟩ := ty
  cases r1
  obtain ⟨hg, _, its, _, o2, h1, h2, _⟩ := (show ObjOk X.prog X.w H1 s1.heap a (.frz ob (.tup xs)) from I1.hok a _ hH)
  have eo : o2 = ob := Option.some.inj (h1.symm.trans hg)
  subst eo
  refine ⟨"tuple", _, PySem.F.plainAttrs_tuple, PySem.F.slot_tuple_index, PySem.F.type_tuple_index, ⟨o2, h1, h2⟩, (fun b e => by cases e; exact ⟨o2, h1, hd⟩), ?_⟩
  have hA := ha.run cpos pins s1 σ H1 _ I1 q1
  rw [hs] at hA ⊢
  refine Calls.callWith_builtin (by show (false || (backTo cpos (starEach es X.env)).any (·.1)) = false; rw [hplain] <;> rfl) (Calls.evalArgs_plain ?_)
  exact thn hA fun us s2 ⟨vs, H2, I2, r2, q2⟩ => mt_tup_index pins s2 σ H2 (.ref a) vs _ us Q I2 (show RelV (.ref a) (Value.ref a) from rfl) r2 q2
/-- tuple(xs) of a list, with what its object is -/
theorem call_tupleF : CallR X (.type "tuple") (fun xs H Q => ∃ p ys, xs = [.ref p] ∧ SqL X.K H p ys ∧ ∀ l o, H l = none → o.dict = none → Q (.ref l) (upd H l (.frz o (.tup ys)))) := by
  intro pins s σ H xs us Q I r h
  obtain ⟨p, ys, rfl, hq, q⟩ := h
  obtain ⟨u, rfl, rx⟩ := vals1 r
  cases rx
  obtain ⟨its, r', pl, hz⟩ := I.list hq
  have hlen := r'.length
  refine call_tuple_list pl.isList (fun h' kp => ?_) (by simp only [List.size_toArray] <;> omega)
  have I1 : Inv X pins σ H { s with heap := h' } := I.kept (t' := s.toks) kp
  have hnew : (h'.push { cls := .type "tuple", data := .seq its.toArray }).get? h'.objs.size = some { cls := .type "tuple", data := .seq its.toArray } := Heap.get?_push_size _ rfl
  have I2 : Inv X pins σ (upd H h'.objs.size (.frz { cls := .type "tuple", data := .seq its.toArray } (.tup ys))) { s with heap := h'.push { cls := .type "tuple", data := .seq its.toArray } } :=
    I1.laid (t' := s.toks) (fun b o e => Heap.get?_push_of_some _ e) (Nat.le_refl _) (show ObjOk X.prog X.w _ _ _ (.frz _ (.tup ys)) from ⟨hnew, hz, its, r', IsTup.new _ _⟩)
  exact ⟨.ref h'.objs.size, _, I2, rfl, q _ _ (I1.hok.fresh (Nat.le_refl _)) rfl⟩
/-- isinstance(x, T), T a built-in type -/
def tIsi (K : PySem.W.Frag) (T : String) (te : TE) : TE := fun σ H Q => te σ H fun x H1 => ∃ t b, TyX K H1 x t ∧ PySem.W.kitOne K t (.type T) = some b ∧ Q (.bl b) H1
theorem pe_isi {T : String} {x : Str} {e : Expr} {te : TE} {p pos p2 : Pos} (hg : Gl X "isinstance") (hm : X.mg "isinstance" = none) (hgx : Gl X x) (hmx : X.mg x = none) (hv : bootBuiltins x = some (.type T)) (he : PE X e te)
    (hn : x ≠ "__name__" := by decide) (hd : (x == ("__debug__" : Str)) = false := by decide)
    (h1 : starEach [e, .Name x p2] X.env = (false, eval e X.env) :: starEach [.Name x p2] X.env := by rfl) (h2 : starEach [.Name x p2] X.env = (false, eval (.Name x p2) X.env) :: starEach [] X.env := by rfl)
    (hpl : (backTo pos (starEach [.Name x p2] X.env)).any (·.1) = false := by rfl) :
    PE X (.Call (.Name "isinstance" p) [e, .Name x p2] [] pos) (tIsi X.K T te) :=
  ⟨fun pins s σ H Q I h => (pe_callB call_isi hg hm (by decide +kernel) (pa_cons he (pa_cons (pe_bltn (v := .ty T) hgx hmx hv rfl hn hd) pa_nil h2) h1) (by decide) (by decide) h1 hpl).run pins s σ H Q I (by
    show te σ H fun x H1 => _
    refine h |> fun h => ?_
    exact h |> fun (h : te σ H fun x H1 => ∃ t b, TyX X.K H1 x t ∧ PySem.W.kitOne X.K t (.type T) = some b ∧ Q (.bl b) H1) => by
      have e : (fun (x : V) (H1 : Hp) => ∃ t b, TyX X.K H1 x t ∧ PySem.W.kitOne X.K t (.type T) = some b ∧ Q (.bl b) H1) = fun x H1 => tCons (tC (.ty T)) tNil σ H1 fun vs H2 => rIsi X.K (x :: vs) H2 Q := by
        funext x H1
        apply propext
        constructor
        · rintro ⟨t, b, ty, k, q⟩
          exact ⟨x, .ty T, t, .type T, b, rfl, .ty T, ty, k, q⟩
        · rintro ⟨x', c, t, u, b, e, k, ty, z, q⟩
          injection e with e1 e2
          injection e2 with e2 _
          subst e1
          subst e2
          cases k
          exact ⟨t, b, ty, z, q⟩
      rw [e] at h
      exact h)⟩
/-! the purse: seen as a list within the one def, else closed -/
theorem asList {pins : List (Addr × Obj)} {σ : L2.St} {H : Hp} {s : Shared} {p : Addr} (I : Inv X pins σ H s) (h : H p = some (.ext (pF p))) :
    ∃ x k y : Int, pOk x k ∧ Inv X pins σ (upd H p (.lst [.int x, .int k, .int y])) s := by
  obtain ⟨⟨x, k, y, its, n, ok, r, e⟩, _⟩ := (show ObjOk X.prog X.w H s.heap p (.ext (pF p)) from I.hok p _ h)
  refine ⟨x, k, y, ok, ?_⟩
  exact I.write (x := p) (e := p) (t' := s.toks) (by rw [h]; trivial) (.inl rfl) (fun b u _ q => q) ⟨_, e⟩ (show ObjOk X.prog X.w _ s.heap p (.lst [.int x, .int k, .int y]) from ⟨by show 3 ≤ sizeLine; decide, its, n, r, e⟩)
theorem asPurse {pins : List (Addr × Obj)} {σ : L2.St} {H : Hp} {s : Shared} {p : Addr} {x k y : Int} (I : Inv X pins σ H s) (h : H p = some (.lst [.int x, .int k, .int y])) (ok : pOk x k) :
    Inv X pins σ (upd H p (.ext (pF p))) s := by
  obtain ⟨_, its, n, r, e⟩ := (show ObjOk X.prog X.w H s.heap p (.lst _) from I.hok p _ h)
  exact I.write (x := p) (e := p) (t' := s.toks) (by rw [h]; trivial) (.inl rfl) (fun b u _ q => q) ⟨_, e⟩ (pF_ok ⟨x, k, y, its, n, ok, r, e⟩)
/-- a new purse -/
def tPur (te : TE) : TE := fun σ H Q => te σ H fun v H1 => ∃ a x k y, v = .ref a ∧ H1 a = some (.lst [.int x, .int k, .int y]) ∧ pOk x k ∧ Q v (upd H1 a (.ext (pF a)))
theorem pe_pur {e : Expr} {te : TE} (he : PE X e te) : PE X e (tPur te) := ⟨fun pins s σ H Q I h =>
  thn (he.run pins s σ H _ I h) fun u s1 ⟨v, H1, I1, r1, a, x, k, y, ev, hH, ok, q⟩ => ⟨v, _, asPurse I1 hH ok, r1, q⟩⟩
/-- a body that looks into the purse at the slot i -/
def tOpen (i : Nat) (t : TS) : TS := fun D σ H => ∃ p, σ[i]? = some (some (.ref p)) ∧ H p = some (.ext (pF p)) ∧ ∀ x k y, pOk x k →
  t { nx := fun _ _ => False, rt := fun v H' => ∃ x' k' y', H' p = some (.lst [.int x', .int k', .int y']) ∧ pOk x' k' ∧ D.rt v (upd H' p (.ext (pF p))), bk := fun _ _ => False, ct := fun _ _ => False } σ (upd H p (.lst [.int x, .int k, .int y]))
theorem pss_open {i : Nat} {st : List Stmt} {t : TS} (h : PSs X st t) : PSs X st (tOpen i t) := ⟨fun pins s σ H D I hw => by
  obtain ⟨p, h1, h2, hw⟩ := hw
  obtain ⟨x, k, y, ok, I1⟩ := asList I h2
  refine thn (h.run pins s σ _ _ I1 (hw x k y ok)) fun f s1 q => ?_
  cases f with
  | next => obtain ⟨_, _, _, q⟩ := q; exact q.elim
  | brk => obtain ⟨_, _, _, q⟩ := q; exact q.elim
  | cont => obtain ⟨_, _, _, q⟩ := q; exact q.elim
  | ret u =>
    obtain ⟨v, σ', H', I', r, x', k', y', hH, ok', q⟩ := q
    exact ⟨v, σ', _, asPurse I' hH ok', r, q⟩⟩
end

/-! ### promises over data -/
/-- A i: the arguments; ok i: what is asked; R i: what comes -/
def spI (K : PySem.W.Frag) {ι : Type} (A : ι → List PyData) (ok : ι → Prop) (R : ι → PyData → Prop) : Sp := fun vs H Q _ => ∃ i, ok i ∧ ∃ F, Same F H ∧ DnAll K F vs (A i) ∧ Res K F H (R i) Q
/-- a def by its name: it stands there and keeps its promise -/
def Good (P : Program) (w : World) (K : PySem.W.Frag) (mg : Str → Option Value) (base : Heap) (x : Str) (ps : List Str) (k : Nat) (sp : Sp) : Prop :=
  ∃ f fd, FnOk P w K mg base CX0 k f fd ps sp ∧ Binds K fd ps [] ∧ mg x = some (.ref f) ∧ PySem.W.keepIn K (.ref f) = true
def Has (K : PySem.W.Frag) (mg : Str → Option Value) (x : Str) (st : Stmt) (ps : List Str) : Prop :=
  ∃ f fd, Fun K x x st f fd ∧ Binds K fd ps [] ∧ mg x = some (.ref f)
theorem Good.mono {P : Program} {w : World} {K : PySem.W.Frag} {mg : Str → Option Value} {base : Heap} {x : Str} {ps : List Str} {j k : Nat} {sp : Sp} (G : Good P w K mg base x ps j sp) (h : j ≤ k) : Good P w K mg base x ps k sp := by
  obtain ⟨f, fd, F, r⟩ := G
  exact ⟨f, fd, F.mono h, r⟩
theorem Good.imp {P : Program} {w : World} {K : PySem.W.Frag} {mg : Str → Option Value} {base : Heap} {x : Str} {ps : List Str} {k : Nat} {sp sp' : Sp} (G : Good P w K mg base x ps k sp) (h : ∀ vs H Q E, sp' vs H Q E → sp vs H Q E) : Good P w K mg base x ps k sp' := by
  obtain ⟨f, fd, F, r⟩ := G
  exact ⟨f, fd, F.imp h, r⟩
section
variable {X : Cx}
theorem pe_cg {x : Str} {ps : List Str} {k : Nat} {sp : Sp} {e : Expr} {es : List Expr} {t : TA} {p pos : Pos} (G : Good X.prog X.w X.K X.mg X.base x ps k sp) (hr : Room k X.A) (ha : PA X (e :: es) t) (hg : Gl X x := by rfl)
    (hdb : (x == ("__debug__" : Str)) = false := by decide) (he : starEach (e :: es) X.env = (false, eval e X.env) :: starEach es X.env := by rfl) (hpl : (backTo pos (starEach es X.env)).any (·.1) = false := by rfl) :
    PE X (.Call (.Name x p) (e :: es) [] pos) (tCall sp [] E0 t) := by
  obtain ⟨f, fd, F, b, m, kp⟩ := G
  exact pe_call F hr hg m kp b .nil pass0 ha hdb he hpl
end
section
variable {P : Program} {w : World} {K : PySem.W.Frag} {mg : Str → Option Value} {base : Heap}
def startE (N : List Str) (ds : List PyData) : Env := ds.map some ++ List.replicate (N.length - ds.length) none
theorem start_ok {F : Hp} {N : List Str} {vs : List V} {ds : List PyData} (h : DnAll K F vs ds) : EnvOk K F (L2.start N vs) (startE N ds) := by
  have hl := h.len
  refine ⟨by unfold L2.start startE; simp [hl], fun i d hd => ?_⟩
  unfold startE at hd
  unfold L2.start
  by_cases hi : i < ds.length
  · rw [List.getElem?_append_left (by simpa using hi), List.getElem?_map] at hd
    cases e : ds[i]? with
    | none => rw [e] at hd; cases hd
    | some d' =>
      rw [e] at hd
      have hd : d' = d := by
        have := Option.some.inj hd
        exact Option.some.inj this
      subst hd
      obtain ⟨v, hv, hn⟩ := h.get e
      exact ⟨v, by rw [List.getElem?_append_left (by simp; omega), List.getElem?_map, hv]; rfl, hn⟩
  · rw [List.getElem?_append_right (by simpa using hi), List.getElem?_replicate] at hd
    split at hd <;> cases hd
/-- THE RULE for a def over data -/
theorem good_of {ι : Type} {A : ι → List PyData} {ok : ι → Prop} {R : ι → PyData → Prop} {t : TS} {j : Nat} {x : Str} {st : Stmt} {N ps : List Str} {k : Nat} (F : Has K mg x st ps) (S : FnScope N ps (defScope st)) (hl : ∀ i, (A i).length = ps.length)
    (h : ∀ (f : Addr) (cdv : Value) (Ar : Around) (outer : List PySem.Env) (s : Shared) (H : Hp) (E : XK), Room k (Ar.deeper (envOfC x (defScope st) s.heap.objs.size f cdv)) →
      PSs (cxOf CX0 P w K mg base N x (defScope st) f cdv Ar outer s H E).nox (defBody st) t)
    (hs : ∀ i, ok i → Sd K j t (startE N (A i)) none (fun _ _ => R i .none) (R i)) : Good P w K mg base x ps (k + 1) (spI K A ok R) := by
  obtain ⟨f, fd, Fn, b, m⟩ := F
  refine ⟨f, fd, Fn.ok S (fun vs H Q E ⟨i, hi, F0, s, hn, q⟩ => by rw [hn.len]; exact hl i) (fun cdv Ar outer s H vs Q E hr hsp => ⟨t, h f cdv Ar outer s H E hr, ?_⟩), b, m, Fn.kp⟩
  obtain ⟨i, hi, F0, sF, hn, q⟩ := hsp
  exact hs i hi F0 H (L2.start N vs) F0 H _ (.refl sF) (start_ok hn) trivial (fun σ2 F2 H2 es2 o2 x2 _ _ _ r => q .non F2 H2 .none x2 .non r) (fun v F2 H2 d x2 hd r => q v F2 H2 d x2 hd r)
end

/-! ### operations over data -/
section
variable {K : PySem.W.Frag} {es : Env} {te ti ta tb : TE} {tt : TT} {tA : TA} {P Pa Pb : PyData → Prop} {F H : Hp}
theorem DnAll.atI {vs : List V} {ds : List PyData} (h : DnAll K F vs ds) {i : Int} {d : PyData} (e : L2.atI ds i = some d) : ∃ v, L2.atI vs i = some v ∧ Dn K F v d := by
  unfold L2.atI at e ⊢
  rw [h.len]
  cases q : ixN ds.length i with
  | none => rw [q] at e; cases e
  | some k =>
    rw [q] at e
    obtain ⟨v, hv, hn⟩ := h.get (i := k) e
    exact ⟨v, hv, hn⟩
theorem r_ixL {ds : List PyData} {i : Int} {d : PyData} (e : L2.atI ds i = some d) (p : P d) : Rp K (rIxL K) (.list ds) (.int i) P := fun vx vy F H s hx hy Q q => by
  obtain ⟨a, xs, rfl, ha, hall⟩ := hx.list_
  have := hy.int_
  subst this
  obtain ⟨v, hv, hn⟩ := hall.atI e
  exact ⟨a, xs, i, v, rfl, rfl, SqL.of (s _ _ ha), hv, q.now s hn p⟩
theorem r_ixT {ds : List PyData} {i : Int} {d : PyData} (e : L2.atI ds i = some d) (p : P d) : Rp K (rIxT K) (.tuple ds) (.int i) P := fun vx vy F H s hx hy Q q => by
  obtain ⟨a, xs, rfl, ha, hall⟩ := hx.tuple_
  have := hy.int_
  subst this
  obtain ⟨v, hv, hn⟩ := hall.atI e
  exact ⟨a, xs, i, v, rfl, rfl, same_sqt s ha, hv, q.now s hn p⟩
theorem e_ixL {ds : List PyData} {i : Int} {d : PyData} (ha : Ed K ta es (.list ds)) (hb : Ed K tb es (.int i)) (e : L2.atI ds i = some d) : Ed K (tOp (rIxL K) ta tb) es d := e_opd ha hb (r_ixL e rfl)
theorem e_ixT {ds : List PyData} {i : Int} {d : PyData} (ha : Ed K ta es (.tuple ds)) (hb : Ed K tb es (.int i)) (e : L2.atI ds i = some d) : Ed K (tOp (rIxT K) ta tb) es d := e_opd ha hb (r_ixT e rfl)
theorem r_ixS {z : Str} {i : Int} {c : Nat} (hz : z.length ≤ 1000) (e : L2.atI z.cps.toList i = some c) (p : P (.str ⟨#[c]⟩)) : Rp K rIxS (.str z) (.int i) P := fun vx vy F H s hx hy Q q =>
  ⟨z, i, c, hx.str_, hy.int_, Nat.le_of_lt (small1000 hz), e, q.now s (.str _) p⟩
/-- == of plain things -/
theorem e_eqI {i j : Int} (ha : Ed K ta es (.int i)) (hb : Ed K tb es (.int j)) : Ed K (tOp rEq ta tb) es (.bool (decide (i = j))) := e_opd ha hb fun vx vy F H s hx hy Q q => by
  rw [hx.int_, hy.int_]
  refine ⟨rfl, q.now s (.bl _) ?_⟩
  rw [dec_int]
  by_cases h : i = j <;> simp [h]
theorem e_eqS {x y : Str} (ha : Ed K ta es (.str x)) (hb : Ed K tb es (.str y)) : Ed K (tOp rEq ta tb) es (.bool (decide (x = y))) := e_opd ha hb fun vx vy F H s hx hy Q q => by
  rw [hx.str_, hy.str_]
  refine ⟨rfl, q.now s (.bl _) ?_⟩
  by_cases h : x = y <;> simp [h]
theorem e_eqB {x y : Bool} (ha : Ed K ta es (.bool x)) (hb : Ed K tb es (.bool y)) : Ed K (tOp rEq ta tb) es (.bool (x == y)) := e_opd ha hb fun vx vy F H s hx hy Q q => by
  rw [hx.bool_, hy.bool_]
  refine ⟨rfl, q.now s (.bl _) ?_⟩
  rw [dec_bl]
theorem e_neI {i j : Int} (ha : Ed K ta es (.int i)) (hb : Ed K tb es (.int j)) : Ed K (tOp rNe ta tb) es (.bool (!decide (i = j))) := e_opd ha hb fun vx vy F H s hx hy Q q => by
  rw [hx.int_, hy.int_]
  refine ⟨rfl, q.now s (.bl _) ?_⟩
  rw [dec_int]
  by_cases h : i = j <;> simp [h]
theorem e_neB {x y : Bool} (ha : Ed K ta es (.bool x)) (hb : Ed K tb es (.bool y)) : Ed K (tOp rNe ta tb) es (.bool (!(x == y))) := e_opd ha hb fun vx vy F H s hx hy Q q => by
  rw [hx.bool_, hy.bool_]
  refine ⟨rfl, q.now s (.bl _) ?_⟩
  rw [dec_bl]
/-- is None -/
def isNone : PyData → Bool
  | .none => true
  | _ => false
theorem Dn.isNon {v : V} {d : PyData} (h : Dn K F v d) : decide (v = .non) = isNone d := by
  cases h <;> simp [isNone]
theorem e_isN {d : PyData} (ha : Ed K ta es d) : Ed K (tOp rIsN ta (tC .non)) es (.bool (isNone d)) := e_opd ha e_non fun vx vy F H s hx hy Q q => by
  rw [hy.none_]
  exact ⟨rfl, q.now s (.bl _) (by rw [hx.isNon])⟩
theorem e_notN {d : PyData} (ha : Ed K ta es d) : Ed K (tOp rNotN ta (tC .non)) es (.bool (!isNone d)) := e_opd ha e_non fun vx vy F H s hx hy Q q => by
  rw [hy.none_]
  exact ⟨rfl, q.now s (.bl _) (by rw [hx.isNon])⟩
/-- what is told: a truth or None -/
def optD : Option Bool → PyData
  | none => .none
  | some b => .bool b
theorem e_isX {x : Option Bool} {b : Bool} (ha : Ed K ta es (optD x)) : Ed K (tOp rIsX ta (tC (.bl b))) es (.bool (decide (x = some b))) := e_opd ha e_bl fun vx vy F H s hx hy Q q => by
  rw [hy.bool_]
  cases x with
  | none =>
    rw [show vx = .non from hx.none_]
    exact ⟨b, rfl, .inl rfl, q.now s (.bl _) (by simp)⟩
  | some a =>
    rw [show vx = .bl a from hx.bool_]
    exact ⟨b, rfl, .inr ⟨a, rfl⟩, q.now s (.bl _) (by simp)⟩
theorem isNone_opt (x : Option Bool) : isNone (optD x) = decide (x = none) := by cases x <;> rfl
/-- in a row of texts -/
theorem inV_str (x : Str) : ∀ ys : List Str, inV (.str x) (ys.map V.str) = decide (x ∈ ys)
  | [] => rfl
  | y :: r => by
    show (eqV (V.str y) (V.str x) || inV (.str x) (r.map V.str)) = decide (x ∈ y :: r)
    rw [inV_str x r]
    have e : eqV (V.str y) (V.str x) = (y == x) := by
      first | rfl | simp [eqV]
    rw [e]
    by_cases h : y = x
    · subst h; simp
    · have h' : ¬ x = y := fun q => h q.symm
      simp [h, h', beq_eq_false_iff_ne.mpr h]
theorem all_flat_strs (ys : List Str) : (ys.map V.str).all flatV = true := flat_strs ys
/-- a row of texts: a list, a tuple, the words' names -/
def RowS (d : PyData) (ys : List Str) : Prop := d = .list (ys.map .str) ∨ d = .tuple (ys.map .str) ∨ d = namesD (ys.map .str)
theorem RowS.sq {d : PyData} {ys : List Str} (r : RowS d ys) {v : V} (h : Dn K F v d) (s : Same F H) : ∃ a, v = .ref a ∧ (SqL K H a (ys.map V.str) ∨ SqT K H a (ys.map V.str)) := by
  rcases r with rfl | rfl | rfl
  · obtain ⟨a, xs, rfl, ha, hall⟩ := h.list_
    rw [hall.strs_] at ha
    exact ⟨a, rfl, .inl (SqL.of (s _ _ ha))⟩
  · obtain ⟨a, xs, rfl, ha, hall⟩ := h.tuple_
    rw [hall.strs_] at ha
    exact ⟨a, rfl, .inr (same_sqt s ha)⟩
  · obtain ⟨a, xs, rfl, ha, hall⟩ := h.tup_of_names.tuple_
    rw [hall.strs_] at ha
    exact ⟨a, rfl, .inr (same_sqt s ha)⟩
theorem e_inS {x : Str} {ys : List Str} (ha : Ed K ta es (.str x)) (hb : Ep K tb es fun d => RowS d ys) : Ed K (tOp (rIn K false) ta tb) es (.bool (decide (x ∈ ys))) :=
  e_op ha hb fun x' y' ex ey vx vy F H s hx hy Q q => by
    subst ex
    rw [hx.str_]
    obtain ⟨a, rfl, hsq⟩ := ey.sq hy s
    refine ⟨a, _, rfl, hsq, rfl, all_flat_strs ys, ?_⟩
    rw [inV_str]
    exact q.now s (.bl _) rfl
theorem e_niS {x : Str} {ys : List Str} (ha : Ed K ta es (.str x)) (hb : Ep K tb es fun d => RowS d ys) : Ed K (tOp (rIn K true) ta tb) es (.bool (!decide (x ∈ ys))) :=
  e_op ha hb fun x' y' ex ey vx vy F H s hx hy Q q => by
    subst ex
    rw [hx.str_]
    obtain ⟨a, rfl, hsq⟩ := ey.sq hy s
    refine ⟨a, _, rfl, hsq, rfl, all_flat_strs ys, ?_⟩
    rw [inV_str]
    exact q.now s (.bl _) rfl
/-- lists put together -/
theorem r_cat {xs ys : List PyData} (hz : xs.length + ys.length ≤ 1000) (p : P (.list (xs ++ ys))) : Rp K rCat (.list xs) (.list ys) P := fun vx vy F H s hx hy Q q => by
  obtain ⟨a, us, rfl, ha, h1⟩ := hx.list_
  obtain ⟨b, ws, rfl, hb, h2⟩ := hy.list_
  refine ⟨a, b, us, ws, rfl, rfl, s _ _ ha, s _ _ hb, Nat.le_of_lt (small1000 (by rw [h1.len, h2.len]; exact hz)), fun l hl => ?_⟩
  have e := Ext.new s hl (.lst (us ++ ws))
  exact q _ _ _ _ e (.lst upd_same ((h1.append h2).up e.f)) p
theorem e_cat {xs ys : List PyData} (ha : Ed K ta es (.list xs)) (hb : Ed K tb es (.list ys)) (hz : xs.length + ys.length ≤ 1000) : Ed K (tOp rCat ta tb) es (.list (xs ++ ys)) := e_opd ha hb (r_cat hz rfl)
/-- the words' names put together -/
theorem e_catN {xs ys : List Str} (ha : Ed K ta es (namesD (xs.map .str))) (hb : Ed K tb es (namesD (ys.map .str))) (hz : xs.length + ys.length ≤ 1000) : Ed K (tOp (rCatA K) ta tb) es (.tuple ((xs ++ ys).map .str)) := e_opd ha hb fun vx vy F H s hx hy Q q => by
  have kx := hx.tup_of_names
  have ky := hy.tup_of_names
  obtain ⟨a, us, rfl, ha, h1⟩ := kx.tuple_
  obtain ⟨b, ws, rfl, hb, h2⟩ := ky.tuple_
  have e1 := h1.strs_
  have e2 := h2.strs_
  subst e1
  subst e2
  refine ⟨a, b, _, _, rfl, rfl, same_sqt s ha, same_sqt s hb, Nat.le_of_lt (small1000 (by simpa using hz)), fun e => ?_, fun _ e => ?_, fun _ _ l hl => ?_⟩
  · have : xs = [] := List.map_eq_nil_iff.mp e
    subst this
    exact q.now s ky rfl
  · have : ys = [] := List.map_eq_nil_iff.mp e
    subst this
    exact q.now s kx (by rw [List.append_nil])
  · have e := Ext.new s hl (.tup (xs.map V.str ++ ys.map V.str))
    refine q _ _ _ _ e (.tup (SqT.of upd_same) ?_) rfl
    rw [List.map_append]
    exact (h1.append h2).up e.f
/-- a list so many times -/
theorem r_rep {xs : List PyData} {n : Int} (h0 : -100 ≤ n) (h1 : n ≤ 100) (hz : xs.length ≤ 10) (p : P (.list (List.replicate n.toNat xs).flatten)) : Rp K rRep (.list xs) (.int n) P := fun vx vy F H s hx hy Q q => by
  obtain ⟨a, us, rfl, ha, hh⟩ := hx.list_
  have := hy.int_
  subst this
  refine ⟨a, n, us, rfl, rfl, s _ _ ha, by omega, by omega, ?_, fun l hl => ?_⟩
  · rw [hh.len]
    have : xs.length * n.toNat ≤ 10 * 100 := Nat.mul_le_mul hz (by omega)
    exact Nat.le_of_lt (small1000 (by omega))
  · have e := Ext.new s hl (.lst (List.replicate n.toNat us).flatten)
    refine q _ _ _ _ e (.lst upd_same (DnAll.up ?_ e.f)) p
    generalize n.toNat = m
    induction m with
    | zero => exact .nil
    | succ m ih => rw [List.replicate_succ, List.replicate_succ, List.flatten_cons, List.flatten_cons]; exact hh.append ih
theorem e_rep {xs : List PyData} {n : Int} (ha : Ed K ta es (.list xs)) (hb : Ed K tb es (.int n)) (h0 : -100 ≤ n) (h1 : n ≤ 100) (hz : xs.length ≤ 10) : Ed K (tOp rRep ta tb) es (.list (List.replicate n.toNat xs).flatten) := e_opd ha hb (r_rep h0 h1 hz rfl)
/-- the same, for a list of one's own -/
theorem ef_rep {xs : List PyData} {n : Int} (ha : Ed K ta es (.list xs)) (hb : Ed K tb es (.int n)) (h0 : -100 ≤ n) (h1 : n ≤ 100) (hz : xs.length ≤ 10) : EpF K (tOp rRep ta tb) es fun ds => ds = (List.replicate n.toNat xs).flatten := fun σ F H s E Q q =>
  ha σ F H s E _ fun v F1 H1 d e1 hx ex => hb σ F1 H1 e1.s (E.up e1.f) _ fun u F2 H2 y e2 hy ey => by
    subst ex
    subst ey
    obtain ⟨a, us, rfl, ha, hh⟩ := (hx.up e2.f).list_
    have := hy.int_
    subst this
    have e := e1.trans e2
    refine ⟨a, n, us, rfl, rfl, e.s _ _ ha, by omega, by omega, ?_, fun l hl => ?_⟩
    · rw [hh.len]
      have : xs.length * n.toNat ≤ 10 * 100 := Nat.mul_le_mul hz (by omega)
      exact Nat.le_of_lt (small1000 (by omega))
    · have hf : F2 l = none := e.s.free hl
      refine q l F2 _ (List.replicate n.toNat us).flatten _ ⟨e.f, fun b u w => ?_, fun b u w => ?_, e.n⟩ (e.h.free hl) hf upd_same ?_ rfl
      · rw [upd_ne (ne_of_none w hf)]; exact e.s _ _ w
      · rw [upd_ne (ne_of_none (e.h _ _ w) hl)]; exact e.h _ _ w
      · generalize n.toNat = m
        induction m with
        | zero => exact .nil
        | succ m ih => rw [List.replicate_succ, List.replicate_succ, List.flatten_cons, List.flatten_cons]; exact hh.append ih
/-! slices -/
def EpO (K : PySem.W.Frag) (to : TO) (es : Env) (P : Option Int → Prop) : Prop := ∀ σ F H, Same F H → EnvOk K F σ es → ∀ Q : Option Int → Hp → Prop, (∀ o F2 H2, Ext F H F2 H2 → P o → Q o H2) → to σ H Q
abbrev EdO (K : PySem.W.Frag) (to : TO) (es : Env) (o : Option Int) : Prop := EpO K to es fun x => x = o
theorem o_none : EdO K tNoPart es none := fun σ F H s E Q q => q none F H (.refl s) rfl
theorem o_some {i : Int} (h : Ed K te es (.int i)) : EdO K (tPart te) es (some i) := fun σ F H s E Q q =>
  h σ F H s E _ fun v F2 H2 d e hd ed => by
    subst ed
    exact ⟨i, hd.int_, q _ F2 H2 e rfl⟩
theorem e_sl {r : V → Option Int → Option Int → Hp → VK → Prop} {tl th : TO} {lo hi : Option Int} {x : PyData} (hx : Ed K te es x) (hl : EdO K tl es lo) (hh : EdO K th es hi)
    (hr : ∀ vx F H, Same F H → Dn K F vx x → ∀ Q : VK, Res K F H P Q → r vx lo hi H Q) : Ep K (tSl r te tl th) es P := fun σ F H s E Q q =>
  hx σ F H s E _ fun v F1 H1 d e1 hd ed => hl σ F1 H1 e1.s (E.up e1.f) _ fun l F2 H2 e2 el => hh σ F2 H2 e2.s ((E.up e1.f).up e2.f) _ fun u F3 H3 e3 eu => by
    subst ed
    subst el
    subst eu
    exact hr v F3 H3 e3.s ((hd.up e2.f).up e3.f) Q (q.after ((e1.trans e2).trans e3))
def cutD (xs : List PyData) (lo hi : Option Int) : List PyData := (xs.drop (HT.sIx xs.length 0 lo)).take (HT.sIx xs.length xs.length hi - HT.sIx xs.length 0 lo)
theorem cut_dn {vs : List V} {ds : List PyData} (h : DnAll K F vs ds) (lo hi : Option Int) : DnAll K F (cutV vs lo hi) (cutD ds lo hi) := by
  unfold cutV cutD
  rw [h.len]
  exact (h.drop _).take _
theorem e_slL {ds : List PyData} {tl th : TO} {lo hi : Option Int} (hx : Ed K te es (.list ds)) (hl : EdO K tl es lo) (hh : EdO K th es hi) : Ed K (tSl (rSlL K) te tl th) es (.list (cutD ds lo hi)) :=
  e_sl hx hl hh fun vx F H s hd Q q => by
    obtain ⟨a, xs, rfl, ha, hall⟩ := hd.list_
    refine ⟨a, xs, rfl, SqL.of (s _ _ ha), fun l hf => ?_⟩
    have e := Ext.new s hf (.lst (cutV xs lo hi))
    exact q _ _ _ _ e (.lst upd_same ((cut_dn hall lo hi).up e.f)) rfl
theorem e_slT {ds : List PyData} {tl th : TO} {lo hi : Option Int} (hx : Ed K te es (.tuple ds)) (hl : EdO K tl es lo) (hh : EdO K th es hi) : Ed K (tSl (rSlA K) te tl th) es (.tuple (cutD ds lo hi)) :=
  e_sl hx hl hh fun vx F H s hd Q q => by
    have hd0 := hd
    obtain ⟨a, xs, rfl, ha, hall⟩ := hd.tuple_
    refine ⟨a, xs, rfl, same_sqt s ha, fun w => q.now s hd0 ?_, fun _ l hf => ?_⟩
    · unfold cutD
      rw [← hall.len, w.1, w.2, hall.len]
      simp
    · have e := Ext.new s hf (.tup (cutV xs lo hi))
      exact q _ _ _ _ e (.tup (SqT.of upd_same) ((cut_dn hall lo hi).up e.f)) rfl
theorem e_slS {z : Str} {tl th : TO} {lo hi : Option Int} (hx : Ed K te es (.str z)) (hl : EdO K tl es lo) (hh : EdO K th es hi) (hz : z.length ≤ 1000) : Ed K (tSl rSlS te tl th) es (.str (cutS z lo hi)) :=
  e_sl hx hl hh fun vx F H s hd Q q => ⟨z, hd.str_, Nat.le_of_lt (small1000 hz), q.now s (.str _) rfl⟩
/-- a cell of the script, as a list -/
theorem e_slScr {ns : List Int} {tl th : TO} {lo hi : Option Int} (hx : Ed K te es (scriptD (ns.map .int))) (hl : EdO K tl es lo) (hh : EdO K th es hi) : Ep K (tSl (rSlL K) te tl th) es fun d => ∃ ms : List Int, d = .list (ms.map .int) :=
  e_sl hx hl hh fun vx F H s hd Q q => by
    obtain ⟨a, rfl, ha⟩ := hd.script_
    refine ⟨a, _, rfl, s.seq ha, fun l hf => ?_⟩
    have e := Ext.new s hf (.lst (cutV (ns.map V.int) lo hi))
    obtain ⟨ms, ec⟩ : ∃ ms : List Int, cutV (ns.map V.int) lo hi = ms.map V.int := ⟨(ns.drop (HT.sIx (ns.map V.int).length 0 lo)).take (HT.sIx (ns.map V.int).length (ns.map V.int).length hi - HT.sIx (ns.map V.int).length 0 lo), by
      unfold cutV
      rw [List.map_take, List.map_drop]⟩
    rw [ec] at e ⊢
    exact q _ _ _ _ e (.lst upd_same (DnAll.ints ms)) ⟨ms, rfl⟩
theorem e_rev {ds : List PyData} (hx : Ed K te es (.list ds)) : Ed K (tRevL K te) es (.list ds.reverse) := fun σ F H s E Q q =>
  hx σ F H s E _ fun v F1 H1 d e1 hd ed => by
    subst ed
    obtain ⟨a, xs, rfl, ha, hall⟩ := hd.list_
    refine ⟨a, xs, rfl, SqL.of (e1.s _ _ ha), fun l hf => ?_⟩
    have e := Ext.new e1.s hf (.lst xs.reverse)
    refine q _ _ _ _ (e1.trans e) (.lst upd_same (DnAll.up ?_ e.f)) rfl
    have rev : ∀ {vs : List V} {ds : List PyData}, DnAll K F1 vs ds → DnAll K F1 vs.reverse ds.reverse := by
      intro vs
      induction vs with
      | nil => intro ds h; cases h; exact .nil
      | cons v r ih =>
        intro ds h
        cases h with
        | cons h1 h2 => rw [List.reverse_cons, List.reverse_cons]; exact (ih h2).append (.cons h1 .nil)
    exact rev hall
/-- the place of a name -/
theorem e_tix {xs : List Str} {x : Str} (ho : Ed K te es (namesD (xs.map .str))) (ha : Ed K ta es (.str x)) {k : Nat} (hk : xs[k]? = some x) (hno : ∀ m, m < k → xs[m]? ≠ some x) : Ed K (tTIx K te (tCons ta tNil)) es (.int (k : Int)) := fun σ F H s E Q q =>
  ho σ F H s E _ fun v F1 H1 d e1 hd ed => by
    subst ed
    obtain ⟨a, o, rfl, hH, hdict⟩ := hd.names_
    refine ⟨⟨a, o, _, rfl, e1.s _ _ hH, hdict⟩, ?_⟩
    refine (e_consd ha e_nil) σ F1 H1 e1.s (E.up e1.f) _ fun vs F2 H2 ds e2 hds eds => ?_
    subst eds
    cases hds with
    | cons q1 q2 =>
      cases q2
      have := q1.str_
      subst this
      exact ⟨a, xs, x, k, rfl, rfl, .inl (.inr ⟨o, e2.s _ _ (e2.f _ _ hH)⟩), hk, hno, q _ F2 H2 _ (e1.trans e2) (.int _) rfl⟩
/-! calls of built-ins -/
theorem c_one {r : List V → Hp → VK → Prop} {x : PyData} (h : ∀ v F H, Same F H → Dn K F v x → ∀ Q : VK, Res K F H P Q → r [v] H Q) : Cp K r [x] P := fun vs F H s hd Q q => by
  cases hd with
  | cons h1 h2 =>
    cases h2
    exact h _ F H s h1 Q q
theorem e_lenSeq {d : PyData} {ds : List PyData} (h : Ep K te es fun x => x = .list ds ∨ x = .tuple ds ∨ ∃ ys : List Str, x = namesD (ys.map .str) ∧ ds = ys.map .str) :
    Ed K (tCB (fun xs H Q => ∃ p ys, xs = [V.ref p] ∧ (SqL K H p ys ∨ SqT K H p ys) ∧ Q (.int ys.length) H) (tCons te tNil)) es (.int (ds.length : Int)) := fun σ F H s E Q q =>
  h σ F H s E _ fun v F1 H1 x e1 hd ex => by
    rcases ex with rfl | rfl | ⟨ys, rfl, rfl⟩
    · obtain ⟨a, xs, rfl, ha, hall⟩ := hd.list_
      refine ⟨a, xs, rfl, .inl (SqL.of (e1.s _ _ ha)), q _ F1 H1 _ e1 (.int _) (by rw [hall.len])⟩
    · obtain ⟨a, xs, rfl, ha, hall⟩ := hd.tuple_
      refine ⟨a, xs, rfl, .inr (same_sqt e1.s ha), q _ F1 H1 _ e1 (.int _) (by rw [hall.len])⟩
    · obtain ⟨a, xs, rfl, ha, hall⟩ := hd.tup_of_names.tuple_
      refine ⟨a, xs, rfl, .inr (same_sqt e1.s ha), q _ F1 H1 _ e1 (.int _) (by rw [hall.len])⟩
end
end Wf


/-! Calls over plain data. -/
namespace Wf
open PySem PySem.Spec PyProof.Rows L2
section
variable {K : PySem.W.Frag} {es : Env} {te ti ta tb : TE} {tt : TT} {tA : TA} {P Pa Pb : PyData → Prop} {F H : Hp}
/-- a call of a def -/
theorem e_call {ι : Type} {A : ι → List PyData} {ok : ι → Prop} {R : ι → PyData → Prop} {PA : List PyData → Prop} (h : EpA K tA es PA) (w : ∀ ds, PA ds → ∃ i, A i = ds ∧ ok i ∧ ∀ d, R i d → P d) :
    Ep K (tCall (spI K A ok R) [] E0 tA) es P := fun σ F H s E Q q =>
  h σ F H s E _ fun vs F1 H1 ds e1 hds p => by
    obtain ⟨i, rfl, hi, hR⟩ := w ds p
    show spI K A ok R (vs ++ []) H1 Q E0
    rw [List.append_nil]
    exact ⟨i, hi, F1, e1.s, hds, fun v F2 H2 d e hd r => q v F2 H2 d (e1.trans e) hd (hR d r)⟩
theorem e_calld {ι : Type} {A : ι → List PyData} {ok : ι → Prop} {R : ι → PyData → Prop} (i : ι) (h : EdA K tA es (A i)) (hi : ok i) (w : ∀ d, R i d → P d) : Ep K (tCall (spI K A ok R) [] E0 tA) es P :=
  e_call h fun ds e => ⟨i, e.symm, hi, w⟩
/-- a call that makes no question of its answer -/
theorem e_callr {ι : Type} {A : ι → List PyData} {ok : ι → Prop} {R : ι → PyData → Prop} (i : ι) (h : EdA K tA es (A i)) (hi : ok i) : Ep K (tCall (spI K A ok R) [] E0 tA) es (R i) := e_calld i h hi fun _ r => r
/-! lists and tuples made of others -/
abbrev rListOf (K : PySem.W.Frag) : List V → Hp → VK → Prop := fun xs H Q => ∃ p ys, xs = [.ref p] ∧ (SqL K H p ys ∨ SqT K H p ys) ∧ ∀ l, H l = none → Q (.ref l) (upd H l (.lst ys))
theorem e_listOf {ds : List PyData} (h : Ep K te es fun x => x = .list ds ∨ x = .tuple ds) : Ed K (tCB (rListOf K) (tCons te tNil)) es (.list ds) := fun σ F H s E Q q =>
  h σ F H s E _ fun v F1 H1 x e1 hd ex => by
    have fin : ∀ (a : Addr) (xs : List V), (SqL K H1 a xs ∨ SqT K H1 a xs) → DnAll K F1 xs ds → rListOf K [.ref a] H1 Q := fun a xs hs hall =>
      ⟨a, xs, rfl, hs, fun l hl => by
        have e := Ext.new e1.s hl (.lst xs)
        exact q _ _ _ _ (e1.trans e) (.lst upd_same (hall.up e.f)) rfl⟩
    rcases ex with rfl | rfl
    · obtain ⟨a, xs, rfl, ha, hall⟩ := hd.list_
      exact fin a xs (.inl (SqL.of (e1.s _ _ ha))) hall
    · obtain ⟨a, xs, rfl, ha, hall⟩ := hd.tuple_
      exact fin a xs (.inr (same_sqt e1.s ha)) hall
theorem ef_listOf {ds : List PyData} (h : Ep K te es fun x => x = .list ds ∨ x = .tuple ds) : EpF K (tCB (rListOf K) (tCons te tNil)) es fun x => x = ds := fun σ F H s E Q q =>
  h σ F H s E _ fun v F1 H1 x e1 hd ex => by
    have fin : ∀ (a : Addr) (xs : List V), (SqL K H1 a xs ∨ SqT K H1 a xs) → DnAll K F1 xs ds → rListOf K [.ref a] H1 Q := fun a xs hs hall =>
      ⟨a, xs, rfl, hs, fun l hl => by
        have hf : F1 l = none := e1.s.free hl
        refine q l F1 _ xs ds ⟨e1.f, fun b u w => ?_, fun b u w => ?_, e1.n⟩ (e1.h.free hl) hf upd_same hall rfl
        · rw [upd_ne (ne_of_none w hf)]; exact e1.s _ _ w
        · rw [upd_ne (ne_of_none (e1.h _ _ w) hl)]; exact e1.h _ _ w⟩
    rcases ex with rfl | rfl
    · obtain ⟨a, xs, rfl, ha, hall⟩ := hd.list_
      exact fin a xs (.inl (SqL.of (e1.s _ _ ha))) hall
    · obtain ⟨a, xs, rfl, ha, hall⟩ := hd.tuple_
      exact fin a xs (.inr (same_sqt e1.s ha)) hall
abbrev rTupF (K : PySem.W.Frag) : List V → Hp → VK → Prop := fun xs H Q => ∃ p ys, xs = [.ref p] ∧ SqL K H p ys ∧ ∀ l o, H l = none → o.dict = none → Q (.ref l) (upd H l (.frz o (.tup ys)))
/-- a tuple of a list -/
theorem e_tupOf {ds : List PyData} (h : Ed K te es (.list ds)) : Ed K (tCB (rTupF K) (tCons te tNil)) es (.tuple ds) := fun σ F H s E Q q =>
  h σ F H s E _ fun v F1 H1 x e1 hd ex => by
    subst ex
    obtain ⟨a, xs, rfl, ha, hall⟩ := hd.list_
    refine ⟨a, xs, rfl, SqL.of (e1.s _ _ ha), fun l o hl ho => ?_⟩
    have e := Ext.new e1.s hl (.frz o (.tup xs))
    exact q _ _ _ _ (e1.trans e) (.tup (.inl (.inr ⟨o, upd_same⟩)) (hall.up e.f)) rfl
/-- the words' names -/
theorem e_namesOf {PA : List Str → Prop} (h : Ep K te es fun d => ∃ xs : List Str, d = .list (xs.map .str) ∧ PA xs) : Ep K (tCB (rTupF K) (tCons te tNil)) es fun d => ∃ xs : List Str, d = namesD (xs.map .str) ∧ PA xs := fun σ F H s E Q q =>
  h σ F H s E _ fun v F1 H1 x e1 hd ex => by
    obtain ⟨ys, rfl, pa⟩ := ex
    obtain ⟨a, xs, rfl, ha, hall⟩ := hd.list_
    rw [hall.strs_] at ha
    refine ⟨a, _, rfl, SqL.of (e1.s _ _ ha), fun l o hl ho => ?_⟩
    have e := Ext.new e1.s hl (.frz o (.tup (ys.map V.str)))
    exact q _ _ _ _ (e1.trans e) (.names upd_same ho rfl) ⟨ys, rfl, pa⟩
/-! numbers of lists -/
theorem e_sum {ns : List Int} (h : Ed K te es (.list (ns.map .int))) : Ed K (tCB (rSum K) (tCons te tNil)) es (.int ns.sum) := fun σ F H s E Q q =>
  h σ F H s E _ fun v F1 H1 x e1 hd ex => by
    subst ex
    obtain ⟨a, xs, rfl, ha, hall⟩ := hd.list_
    rw [hall.ints_] at ha
    exact ⟨a, ns, rfl, SqL.of (e1.s _ _ ha), q _ F1 H1 _ e1 (.int _) rfl⟩
theorem e_sump (h : Ep K te es fun d => ∃ ms : List Int, d = .list (ms.map .int)) : Ep K (tCB (rSum K) (tCons te tNil)) es fun d => ∃ i : Int, d = .int i := fun σ F H s E Q q =>
  h σ F H s E _ fun v F1 H1 x e1 hd ex => by
    obtain ⟨ns, rfl⟩ := ex
    obtain ⟨a, xs, rfl, ha, hall⟩ := hd.list_
    rw [hall.ints_] at ha
    exact ⟨a, ns, rfl, SqL.of (e1.s _ _ ha), q _ F1 H1 _ e1 (.int _) ⟨_, rfl⟩⟩
theorem e_max {ns : List Int} {m : Int} (h : Ed K te es (.list (ns.map .int))) (h1 : m ∈ ns) (h2 : ∀ y, y ∈ ns → y ≤ m) : Ed K (tCB (rMax K) (tCons te tNil)) es (.int m) := fun σ F H s E Q q =>
  h σ F H s E _ fun v F1 H1 x e1 hd ex => by
    subst ex
    obtain ⟨a, xs, rfl, ha, hall⟩ := hd.list_
    rw [hall.ints_] at ha
    refine ⟨a, ns, rfl, SqL.of (e1.s _ _ ha), List.length_pos_of_mem h1, fun m' g1 g2 => ?_⟩
    have : m' = m := Int.le_antisymm (h2 m' g1) (g2 m h1)
    subst this
    exact q _ F1 H1 _ e1 (.int _) rfl
theorem e_any {bs : List Bool} (h : Ed K te es (.list (bs.map .bool))) : Ed K (tCB (rAny K) (tCons te tNil)) es (.bool (bs.any id)) := fun σ F H s E Q q =>
  h σ F H s E _ fun v F1 H1 x e1 hd ex => by
    subst ex
    obtain ⟨a, xs, rfl, ha, hall⟩ := hd.list_
    rw [hall.bools_] at ha
    exact ⟨a, bs, rfl, SqL.of (e1.s _ _ ha), q _ F1 H1 _ e1 (.bl _) rfl⟩
theorem e_all {bs : List Bool} (h : Ed K te es (.list (bs.map .bool))) : Ed K (tCB (rAll K) (tCons te tNil)) es (.bool (bs.all id)) := fun σ F H s E Q q =>
  h σ F H s E _ fun v F1 H1 x e1 hd ex => by
    subst ex
    obtain ⟨a, xs, rfl, ha, hall⟩ := hd.list_
    rw [hall.bools_] at ha
    exact ⟨a, bs, rfl, SqL.of (e1.s _ _ ha), q _ F1 H1 _ e1 (.bl _) rfl⟩
abbrev rMx2 : List V → Hp → VK → Prop := fun xs H Q => ∃ i j, xs = [.int i, .int j] ∧ Q (.int (if j > i then j else i)) H
abbrev rMn2 : List V → Hp → VK → Prop := fun xs H Q => ∃ i j, xs = [.int i, .int j] ∧ Q (.int (if j < i then j else i)) H
theorem e_mx2 {i j : Int} (h : EdA K tA es [.int i, .int j]) : Ed K (tCB rMx2 tA) es (.int (if j > i then j else i)) := e_cbd h fun vs F H s hd Q q => by
  have := hd.ints_ (ns := [i, j])
  subst this
  exact ⟨i, j, rfl, q.now s (.int _) rfl⟩
theorem e_mn2 {i j : Int} (h : EdA K tA es [.int i, .int j]) : Ed K (tCB rMn2 tA) es (.int (if j < i then j else i)) := e_cbd h fun vs F H s hd Q q => by
  have := hd.ints_ (ns := [i, j])
  subst this
  exact ⟨i, j, rfl, q.now s (.int _) rfl⟩
abbrev rInt1 : List V → Hp → VK → Prop := fun xs H Q => (∃ i, xs = [.int i] ∧ Q (.int i) H) ∨ ∃ k, xs = [.bl k] ∧ Q (.int (if k then 1 else 0)) H
theorem e_intB {b : Bool} (h : Ed K te es (.bool b)) : Ed K (tCB rInt1 (tCons te tNil)) es (.int (if b then 1 else 0)) := fun σ F H s E Q q =>
  h σ F H s E _ fun v F1 H1 x e1 hd ex => by
    subst ex
    rw [hd.bool_]
    exact .inr ⟨b, rfl, q _ F1 H1 _ e1 (.int _) rfl⟩
abbrev rLenS : List V → Hp → VK → Prop := fun xs H Q => ∃ z, xs = [.str z] ∧ z.length ≤ sizeLine ∧ Q (.int z.length) H
theorem e_lenS {z : Str} (h : Ed K te es (.str z)) (hz : z.length ≤ 1000) : Ed K (tCB rLenS (tCons te tNil)) es (.int (z.length : Int)) := fun σ F H s E Q q =>
  h σ F H s E _ fun v F1 H1 x e1 hd ex => by
    subst ex
    rw [hd.str_]
    exact ⟨z, rfl, Nat.le_of_lt (small1000 hz), q _ F1 H1 _ e1 (.int _) rfl⟩
/-- sorted, texts -/
theorem e_sortS {xs : List Str} (h : Ed K te es (.list (xs.map .str))) (hz : xs.length < 64) : Ep K (tCB (rSortedS K) (tCons te tNil)) es fun d => ∃ ys : List Str, d = .list (ys.map .str) ∧ ys.length = xs.length := fun σ F H s E Q q =>
  h σ F H s E _ fun v F1 H1 x e1 hd ex => by
    subst ex
    obtain ⟨a, vs, rfl, ha, hall⟩ := hd.list_
    rw [hall.strs_] at ha
    refine ⟨a, xs, rfl, SqL.of (e1.s _ _ ha), hz, fun ys p hp _ hl => ?_⟩
    have e := Ext.new e1.s hl (.lst (ys.map V.str))
    exact q _ _ _ _ (e1.trans e) (.lst upd_same (DnAll.strs ys)) ⟨ys, rfl, hp.length_eq⟩
/-! texts -/
abbrev rAddS' : R2 := fun x y H Q => ∃ i j, x = .str i ∧ y = .str j ∧ i.length + j.length ≤ sizeLine ∧ Q (.str (i ++ j)) H
theorem e_addS {x y : Str} (ha : Ed K ta es (.str x)) (hb : Ed K tb es (.str y)) (hz : x.length + y.length ≤ 1000) : Ed K (tOp rAddS' ta tb) es (.str (x ++ y)) := e_opd ha hb fun vx vy F H s hx hy Q q =>
  ⟨x, y, hx.str_, hy.str_, Nat.le_of_lt (small1000 hz), q.now s (.str _) rfl⟩
theorem e_mulS {x : Str} {n : Int} (ha : Ed K ta es (.str x)) (hb : Ed K tb es (.int n)) (hx : x.length = 1) (h1 : 2 ≤ n) (h2 : n ≤ 100) : Ep K (tOp rMulS ta tb) es fun d => ∃ S : Str, d = .str S ∧ S.length = n.toNat := e_opd ha hb fun vx vy F H s hvx hvy Q q =>
  ⟨x, n, hvx.str_, hvy.int_, hx, h1, h2, fun S hS => q.now s (.str _) ⟨S, rfl, hS⟩⟩
abbrev rJoin (K : PySem.W.Frag) : V → List V → Hp → VK → Prop := fun x xs H Q => ∃ a p, ∃ ys : List Str, x = .str a ∧ xs = [.ref p] ∧ (SqL K H p (ys.map V.str) ∨ SqT K H p (ys.map V.str)) ∧
    (ys.map (·.length)).sum + ys.length * a.length ≤ 16777216 ∧ Q (.str (Txt.join a ys)) H
theorem e_join {a : Str} {PA : List Str → Prop} (ha : Ed K ta es (.str a)) (hb : Ep K tb es fun d => ∃ ys : List Str, d = .list (ys.map .str) ∧ PA ys) (hz : ∀ ys, PA ys → (ys.map (·.length)).sum + ys.length * a.length ≤ 16777216) :
    Ep K (tM1 (rJoin K) ta tb) es fun d => ∃ ys : List Str, d = .str (Txt.join a ys) ∧ PA ys := fun σ F H s E Q q =>
  ha σ F H s E _ fun v F1 H1 x e1 hd ex => by
    subst ex
    rw [hd.str_]
    refine ⟨⟨a, rfl⟩, ?_⟩
    refine hb σ F1 H1 e1.s (E.up e1.f) _ fun u F2 H2 y e2 hy ey => ?_
    obtain ⟨ys, rfl, pa⟩ := ey
    obtain ⟨p, vs, rfl, hp, hall⟩ := hy.list_
    rw [hall.strs_] at hp
    exact ⟨a, p, ys, rfl, rfl, .inl (SqL.of (e2.s _ _ hp)), hz ys pa, q _ F2 H2 _ (e1.trans e2) (.str _) ⟨ys, rfl, pa⟩⟩
/-! isinstance -/
def tyD : PyData → String
  | .none => "NoneType"
  | .bool _ => "bool"
  | .int _ => "int"
  | .str _ => "str"
  | .list _ => "list"
  | .tuple _ => "tuple"
  | .dict _ => "dict"
theorem sqt_ty {a : Addr} {xs : List V} (h : SqT K H a xs) : TyX K H (.ref a) (.type "tuple") := by
  rcases h with (h | ⟨o, h⟩) | ⟨o, its, n, h1, h2, _⟩
  · exact .base (.tup h)
  · exact .fTuple h
  · exact .kTuple h1 h2
theorem e_isi {d : PyData} {T : String} {b : Bool} (h : Ed K te es d) (hk : kitB (tyD d) T = some b) (hd : ∀ kvs, d ≠ .dict kvs) : Ed K (tIsi K T te) es (.bool b) := fun σ F H s E Q q =>
  h σ F H s E _ fun v F1 H1 x e1 hv ex => by
    subst ex
    refine ⟨.type (tyD x), b, ?_, kit_ty hk, q _ F1 H1 _ e1 (.bl _) rfl⟩
    cases x with
    | none => rw [hv.none_]; exact .base .non
    | bool b => rw [hv.bool_]; exact .base (.bl b)
    | int i => rw [hv.int_]; exact .base (.int i)
    | str z => rw [hv.str_]; exact .base (.str z)
    | list ds => obtain ⟨a, xs, rfl, ha, _⟩ := hv.list_; exact .base (.lst (e1.s _ _ ha))
    | tuple ds => obtain ⟨a, xs, rfl, ha, _⟩ := hv.tuple_; exact sqt_ty (same_sqt e1.s ha)
    | dict kvs => exact absurd rfl (hd kvs)
/-! == at any depth -/
mutual
def noDict : PyData → Bool
  | .dict _ => false
  | .list ds => noDictAll ds
  | .tuple ds => noDictAll ds
  | _ => true
def noDictAll : List PyData → Bool
  | [] => true
  | d :: ds => noDict d && noDictAll ds
end
mutual
theorem Dn.dp (s : Same F H) : ∀ (d : PyData) (v : V), noDict d = true → Dn K F v d → Dp K H v d
  | .none, _, _, h => by cases h; exact .non
  | .bool b, _, _, h => by cases h; exact .bl b
  | .int i, _, _, h => by cases h; exact .int i
  | .str x, _, _, h => by cases h; exact .str x
  | .list ds, _, n, h => by cases h with | lst h1 h2 => exact .lst (SqL.of (s _ _ h1)) (DnAll.dp s ds _ n h2)
  | .tuple ds, _, n, h => by cases h with | tup h1 h2 => exact .tup (same_sqt s h1) (DnAll.dp s ds _ n h2)
  | .dict _, _, n, _ => by cases n
theorem DnAll.dp (s : Same F H) : ∀ (ds : List PyData) (vs : List V), noDictAll ds = true → DnAll K F vs ds → DpAll K H vs ds
  | [], _, _, h => by cases h; exact .nil
  | d :: ds, _, n, h => by
    have n : (noDict d && noDictAll ds) = true := n
    rw [Bool.and_eq_true] at n
    cases h with | cons h1 h2 => exact .cons (Dn.dp s d _ n.1 h1) (DnAll.dp s ds _ n.2 h2)
end
theorem e_eqD {x y : PyData} (ha : Ed K ta es x) (hb : Ed K tb es y) (h1 : SeqAt.shaped x = true) (h2 : SeqAt.shaped y = true) (n1 : noDict x = true) (n2 : noDict y = true) : Ed K (tOp (rEqD K) ta tb) es (.bool (PyData.eqv x y)) := e_opd ha hb fun vx vy F H s hx hy Q q =>
  ⟨x, y, Dn.dp s x vx n1 hx, Dn.dp s y vy n2 hy, h1, h2, q.now s (.bl _) rfl⟩
theorem e_neD {x y : PyData} (ha : Ed K ta es x) (hb : Ed K tb es y) (h1 : SeqAt.shaped x = true) (h2 : SeqAt.shaped y = true) (n1 : noDict x = true) (n2 : noDict y = true) : Ed K (tOp (rNeD K) ta tb) es (.bool (!PyData.eqv x y)) := e_opd ha hb fun vx vy F H s hx hy Q q =>
  ⟨x, y, Dn.dp s x vx n1 hx, Dn.dp s y vy n2 hy, h1, h2, q.now s (.bl _) rfl⟩
theorem e_notInD {x : PyData} {ys : List PyData} (ha : Ed K ta es x) (hb : Ed K tb es (.list ys)) (h1 : SeqAt.shaped x = true) (h2 : SeqAt.shaped (.list ys) = true) (n1 : noDict x = true) (n2 : noDict (.list ys) = true) : Ed K (tOp (rNotInD K) ta tb) es (.bool (!ys.any fun z => PyData.eqv z x)) := e_opd ha hb fun vx vy F H s hx hy Q q =>
  ⟨x, ys, Dn.dp s x vx n1 hx, Dn.dp s (.list ys) vy n2 hy, h1, h2, q.now s (.bl _) rfl⟩
/-! the purse -/
theorem e_pur {x k y : Int} (h : EdA K tA es [.int x, .int k, .int y]) (ok : pOk x k) : Ed K (tPur (tLst tA)) es purseD := fun σ F H s E Q q =>
  h σ F H s E _ fun vs F1 H1 ds e1 hds eds => by
    subst eds
    have := hds.ints_ (ns := [x, k, y])
    subst this
    refine ⟨by show 3 ≤ sizeLine; decide, fun p hp => ⟨p, x, k, y, rfl, upd_same, ok, ?_⟩⟩
    rw [upd_upd]
    have e := Ext.new e1.s hp (.ext (pF p))
    exact q _ _ _ _ (e1.trans e) (.purse upd_same) rfl
end
end Wf


/-! How words, worlds, expressions, sayings lie in Python's data; what each def promises. -/
namespace Wf
open PySem PySem.Spec PyProof.Rows L2
abbrev E := Exp Str
abbrev Sg := Say Str
abbrev nI (n : Nat) : PyData := .int (n : Int)
def pyE : E → PyData
  | .name s => .tuple [.str "name", .str s]
  | .same => .tuple [.str "same"]
  | .all => .tuple [.str "all"]
  | .none => .tuple [.str "none"]
  | .plus e f => .tuple [.str "plus", pyE e, pyE f]
  | .less e f => .tuple [.str "less", pyE e, pyE f]
  | .both e f => .tuple [.str "both", pyE e, pyE f]
  | .joined e f => .tuple [.str "joined", pyE e, pyE f]
  | .turned e => .tuple [.str "turned", pyE e]
  | .closed e => .tuple [.str "closed", pyE e]
def pyS : Sg → PyData
  | .inn e f => .tuple [.str "in", pyE e, pyE f]
  | .equal e f => .tuple [.str "equal", pyE e, pyE f]
  | .some e => .tuple [.str "some", pyE e]
  | .no e => .tuple [.str "no", pyE e]
  | .least k e => .tuple [.str "least", nI k, pyE e]
  | .most k e => .tuple [.str "most", nI k, pyE e]
  | .eachleast k e => .tuple [.str "eachleast", nI k, pyE e]
  | .eachmost k e => .tuple [.str "eachmost", nI k, pyE e]
  | .not s => .tuple [.str "not", pyS s]
  | .and s t => .tuple [.str "and", pyS s, pyS t]
  | .or s t => .tuple [.str "or", pyS s, pyS t]
abbrev pyW (w : Wd) : PyData := .tuple [nI w.n, .tuple (w.ks.map nI), .tuple (w.ts.map nI)]
abbrev pyN (xs : List Str) : PyData := namesD (xs.map .str)
abbrev pyQ (kn tn : List Str) : PyData := .tuple [pyN kn, pyN tn]
abbrev pyL (xs : List Str) : PyData := .tuple (xs.map .str)
abbrev pyT (n : Nat) (f : F) : PyData := nI (enc n f)
abbrev pyB (n : Nat) (x : F × F) : PyData := .tuple [pyT n x.1, pyT n x.2]
abbrev pyG (n : Nat) (f : F) : PyData := .list ((List.range n).map fun a => .list ((List.range n).map fun b => nI (f a b).toNat))
abbrev pyP (p : Nat × Nat) : PyData := .tuple [nI p.1, nI p.2]
abbrev pySp (s : Spot) : PyData := .tuple [nI (if s.kind then 1 else 2), nI s.k, nI (2 ^ s.j)]
abbrev pyR (ns : List Int) : PyData := scriptD (ns.map .int)
structure WOk (kn tn : List Str) (w : Wd) : Prop where
  n : w.n ≤ 4
  ks : w.ks.length = kn.length
  ts : w.ts.length = tn.length
  kb : ∀ k, k ∈ w.ks → k < 2 ^ w.n
  tb : ∀ t, t ∈ w.ts → t < 2 ^ (w.n * w.n)
def eOk (nm : List Str) : E → Prop
  | .name s => s ∈ nm
  | .same => True
  | .all => True
  | .none => True
  | .plus e f => eOk nm e ∧ eOk nm f
  | .less e f => eOk nm e ∧ eOk nm f
  | .both e f => eOk nm e ∧ eOk nm f
  | .joined e f => eOk nm e ∧ eOk nm f
  | .turned e => eOk nm e
  | .closed e => eOk nm e
def eDep : E → Nat
  | .name _ => 0
  | .same => 0
  | .all => 0
  | .none => 0
  | .plus e f => max (eDep e) (eDep f) + 1
  | .less e f => max (eDep e) (eDep f) + 1
  | .both e f => max (eDep e) (eDep f) + 1
  | .joined e f => max (eDep e) (eDep f) + 1
  | .turned e => eDep e + 1
  | .closed e => eDep e + 1
/-- what a fact speaks of -/
def parts : Sg → List E
  | .inn e f => [e, f]
  | .equal e f => [e, f]
  | .some e => [e]
  | .no e => [e]
  | .least _ e => [e]
  | .most _ e => [e]
  | .eachleast _ e => [e]
  | .eachmost _ e => [e]
  | _ => []
def isFact : Sg → Bool
  | .not _ => false
  | .and _ _ => false
  | .or _ _ => false
  | _ => true
def sOk (nm : List Str) : Sg → Prop
  | .not s => sOk nm s
  | .and s t => sOk nm s ∧ sOk nm t
  | .or s t => sOk nm s ∧ sOk nm t
  | s => ∀ e, e ∈ parts s → eOk nm e ∧ eDep e < 9
def sDep : Sg → Nat
  | .not s => sDep s + 1
  | .and s t => max (sDep s) (sDep t) + 1
  | .or s t => max (sDep s) (sDep t) + 1
  | _ => 0
/-- what made makes -/
inductive Mk where
  | same | all | none
  | plus (f g : F) | both (f g : F) | joined (f g : F) | turned (f : F) | closed (f : F)
def mkN : Mk → Str
  | .same => "same"
  | .all => "all"
  | .none => "none"
  | .plus _ _ => "plus"
  | .both _ _ => "both"
  | .joined _ _ => "joined"
  | .turned _ => "turned"
  | .closed _ => "closed"
def mkA (n : Nat) : Mk → List PyData
  | .same => []
  | .all => []
  | .none => []
  | .plus f g => [pyT n f, pyT n g]
  | .both f g => [pyT n f, pyT n g]
  | .joined f g => [pyT n f, pyT n g]
  | .turned f => [pyT n f]
  | .closed f => [pyT n f]
def mkF (n : Nat) : Mk → F
  | .same => sameF
  | .all => allF
  | .none => noF
  | .plus f g => orF f g
  | .both f g => andF f g
  | .joined f g => joinF n f g
  | .turned f => turnF f
  | .closed f => closedP n f
/-- what the law's two makes -/
inductive Tw where
  | joined | plus | both | less
def twN : Tw → Str
  | .joined => "joined"
  | .plus => "plus"
  | .both => "both"
  | .less => "less"
def twF (n : Nat) (f g : F) : Tw → F
  | .joined => joinF n f g
  | .plus => orF f g
  | .both => andF f g
  | .less => lessF f g
structure SpOk (kn tn : List Str) (n : Nat) (s : Spot) : Prop where
  k : if s.kind then s.k < kn.length else s.k < tn.length
  j : if s.kind then s.j < n else s.j < n * n
/-! ## what each def promises -/
section
variable (K : PySem.W.Frag)
abbrev sp_is_within : Sp := spI K (fun i : Nat × Nat => [nI i.1, nI i.2]) (fun i => i.2 < i.1) fun _ d => d = .bool true
abbrev sp_row_of : Sp := spI K (fun i : Nat × F × Nat => [nI i.1, pyT i.1 i.2.1, nI i.2.2]) (fun i => i.1 ≤ 4 ∧ i.2.2 < i.1) fun i d => d = nI (rowN i.1 (enc i.1 i.2.1) i.2.2)
abbrev sp_pairs_of : Sp := spI K (fun i : Nat × F => [nI i.1, pyT i.1 i.2]) (fun i => i.1 ≤ 4) fun i d => d = .list ((prs i.1 i.2).map pyP)
abbrev sp_tie_of : Sp := spI K (fun n : Nat => [nI n, .list (((List.range n).map fun a => (a, a)).map pyP)]) (fun n => n ≤ 4) fun n d => d = pyT n sameF
abbrev sp_common : Sp := spI K (fun i : Nat × F × F => [pyT i.1 i.2.1, pyT i.1 i.2.2]) (fun _ => True) fun i d => d = pyT i.1 (andF i.2.1 i.2.2)
abbrev sp_either : Sp := spI K (fun i : Nat × F × F => [pyT i.1 i.2.1, pyT i.1 i.2.2]) (fun _ => True) fun i d => d = pyT i.1 (orF i.2.1 i.2.2)
abbrev sp_without : Sp := spI K (fun i : Nat × F × F => [pyT i.1 i.2.1, pyT i.1 i.2.2]) (fun _ => True) fun i d => d = pyT i.1 (lessF i.2.1 i.2.2)
abbrev sp_turned : Sp := spI K (fun i : Nat × F => [nI i.1, pyT i.1 i.2]) (fun i => i.1 ≤ 4) fun i d => d = pyT i.1 (turnF i.2)
abbrev sp_joined : Sp := spI K (fun i : Nat × F × F => [nI i.1, pyT i.1 i.2.1, pyT i.1 i.2.2]) (fun i => i.1 ≤ 4) fun i d => d = pyT i.1 (joinF i.1 i.2.1 i.2.2)
abbrev sp_closed : Sp := spI K (fun i : Nat × F => [nI i.1, pyT i.1 i.2]) (fun i => i.1 ≤ 4) fun i d => d = pyT i.1 (closedP i.1 i.2)
abbrev sp_same : Sp := spI K (fun n : Nat => [nI n]) (fun n => n ≤ 4) fun n d => d = pyT n sameF
abbrev sp_every : Sp := spI K (fun n : Nat => [nI n]) (fun n => n ≤ 4) fun n d => d = pyT n allF
abbrev sp_kind_tie : Sp := spI K (fun i : Nat × Nat => [nI i.1, nI i.2]) (fun i => i.1 ≤ 4) fun i d => d = pyT i.1 (kindF i.2)
structure INamed where
  kn : List Str
  tn : List Str
  w : Wd
  s : Str
abbrev sp_named : Sp := spI K (fun i : INamed => [pyQ i.kn i.tn, pyW i.w, .str i.s]) (fun i => WOk i.kn i.tn i.w ∧ i.s ∈ i.kn ++ i.tn) fun i d => d = pyT i.w.n (namedF i.kn i.tn i.w i.s)
abbrev sp_made : Sp := spI K (fun i : Nat × Mk => [nI i.1, .str (mkN i.2), .list (mkA i.1 i.2)]) (fun i => i.1 ≤ 4) fun i d => d = pyT i.1 (mkF i.1 i.2)
abbrev sp_tied_numbers : Sp := spI K (fun i : Nat × F => [nI i.1, pyT i.1 i.2]) (fun i => i.1 ≤ 4) fun i d => d = .list ((nums i.1 i.2).map nI)
structure IB where
  kn : List Str
  tn : List Str
  l : Wd
  h : Wd
structure IB.Ok (i : IB) : Prop where
  l : WOk i.kn i.tn i.l
  h : WOk i.kn i.tn i.h
  n : i.l.n = i.h.n
abbrev IB.b (i : IB) (e : E) : F × F := bnd i.kn i.tn i.l i.h e
abbrev sp_bounds (m : Nat) : Sp := spI K (fun i : IB × E => [pyQ i.1.kn i.1.tn, .tuple [pyW i.1.l, pyW i.1.h], pyE i.2]) (fun i => i.1.Ok ∧ eOk (i.1.kn ++ i.1.tn) i.2 ∧ eDep i.2 < m) fun i d => d = pyB i.1.l.n (i.1.b i.2)
abbrev sp_told_in : Sp := spI K (fun i : Nat × (F × F) × (F × F) => [pyB i.1 i.2.1, pyB i.1 i.2.2]) (fun _ => True) fun i d => d = optD (oIn i.1 i.2.1 i.2.2)
abbrev sp_told_both : Sp := spI K (fun i : Option Bool × Option Bool => [optD i.1, optD i.2]) (fun _ => True) fun i d => d = optD (oBoth i.1 i.2)
abbrev sp_told_not : Sp := spI K (fun i : Option Bool => [optD i]) (fun _ => True) fun i d => d = optD (oNot i)
abbrev sp_told_least : Sp := spI K (fun i : List Nat × List Nat × Nat => [.list (i.1.map nI), .list (i.2.1.map nI), nI i.2.2]) (fun i => i.1.length ≤ 4 ∧ i.2.1.length ≤ 4) fun i d => d = optD (oLeast i.1 i.2.1 i.2.2)
abbrev sp_told_most : Sp := spI K (fun i : List Nat × List Nat × Nat => [.list (i.1.map nI), .list (i.2.1.map nI), nI i.2.2]) (fun i => i.1.length ≤ 4 ∧ i.2.1.length ≤ 4) fun i d => d = optD (oMost i.1 i.2.1 i.2.2)
abbrev IB.t (i : IB) (s : Sg) : Option Bool := tell i.kn i.tn i.l i.h s
abbrev sp_told_fact : Sp := spI K (fun i : IB × Sg => [nI i.1.l.n, pyS i.2, .list ((parts i.2).map fun e => pyB i.1.l.n (i.1.b e))]) (fun i => i.1.l.n ≤ 4 ∧ isFact i.2 = true) fun i d => d = optD (i.1.t i.2)
abbrev sp_told (m : Nat) : Sp := spI K (fun i : IB × Sg => [pyQ i.1.kn i.1.tn, .tuple [pyW i.1.l, pyW i.1.h], pyS i.2]) (fun i => i.1.Ok ∧ sOk (i.1.kn ++ i.1.tn) i.2 ∧ sDep i.2 < m) fun i d => d = optD (i.1.t i.2)
/-! the law's own -/
abbrev sp__law_cell : Sp := spI K (fun i : List Int × Nat => [pyR i.1, nI i.2]) (fun i => i.2 ≤ 100) fun _ d => ∃ x : Int, d = .int x
abbrev sp__law_purse : Sp := spI K (fun i : List Int × Nat => [pyR i.1, nI i.2]) (fun i => i.2 ≤ 100) fun _ d => d = purseD
abbrev sp__law_next : Sp := spI K (fun m : Nat => [purseD, nI m]) (fun m => 1 ≤ m ∧ m ≤ 100000000) fun m d => ∃ r : Nat, d = nI r ∧ r < m
abbrev sp__law_family : Sp := spI K (fun i : Nat × Nat => [nI i.1, nI i.2]) (fun i => i.1 ≤ 100000000 ∧ i.2 ≤ 8) fun i d => ∃ xs : List Str, d = .list (xs.map .str) ∧ xs.length = i.2
abbrev sp__law_any_names : Sp := spI K (fun i : List Int × Nat × Nat => [pyR i.1, nI i.2.1, nI i.2.2]) (fun i => i.2.1 ≤ 4 ∧ i.2.2 ≤ 4) fun i d => ∃ xs : List Str, d = .list (xs.map .str) ∧ xs.length = i.2.1 + i.2.2
abbrev sp__law_words : Sp := spI K (fun ns : List Int => [pyR ns]) (fun _ => True) fun _ d => ∃ kn tn : List Str, d = pyQ kn tn ∧ kn.length ≤ 4 ∧ tn.length ≤ 4
abbrev sp__law_size : Sp := spI K (fun _ : Unit => [purseD]) (fun _ => True) fun _ d => ∃ n : Nat, d = nI n ∧ n ≤ 4
abbrev sp__law_world : Sp := spI K (fun i : List Str × List Str × Nat => [pyQ i.1 i.2.1, nI i.2.2, purseD]) (fun i => i.1.length ≤ 4 ∧ i.2.1.length ≤ 4 ∧ i.2.2 ≤ 4) fun i d => ∃ w : Wd, d = pyW w ∧ WOk i.1 i.2.1 w ∧ w.n = i.2.2
abbrev sp__law_leaf : Sp := spI K (fun nm : List Str => [purseD, pyL nm]) (fun nm => nm.length ≤ 8) fun nm d => ∃ e : E, d = pyE e ∧ eOk nm e ∧ eDep e = 0
abbrev sp__law_expression (m : Nat) : Sp := spI K (fun i : Nat × List Str => [purseD, nI i.1, pyL i.2]) (fun i => i.2.length ≤ 8 ∧ i.1 < m) fun i d => ∃ e : E, d = pyE e ∧ eOk i.2 e ∧ eDep e ≤ i.1
abbrev sp__law_fact : Sp := spI K (fun nm : List Str => [purseD, pyL nm]) (fun nm => nm.length ≤ 8) fun nm d => ∃ s : Sg, d = pyS s ∧ sOk nm s ∧ sDep s = 0
abbrev sp__law_saying (m : Nat) : Sp := spI K (fun i : Nat × List Str => [purseD, nI i.1, pyL i.2]) (fun i => i.2.length ≤ 8 ∧ i.1 < m) fun i d => ∃ s : Sg, d = pyS s ∧ sOk i.2 s ∧ sDep s ≤ i.1
abbrev sp__law_grid : Sp := spI K (fun i : Nat × F => [nI i.1, pyT i.1 i.2]) (fun i => i.1 ≤ 4) fun i d => d = pyG i.1 i.2
abbrev sp__law_named : Sp := spI K (fun i : INamed => [pyQ i.kn i.tn, pyW i.w, .str i.s]) (fun i => WOk i.kn i.tn i.w ∧ i.s ∈ i.kn ++ i.tn) fun i d => d = pyG i.w.n (namedF i.kn i.tn i.w i.s)
abbrev sp__law_closed : Sp := spI K (fun i : Nat × F => [pyG i.1 i.2]) (fun i => i.1 ≤ 4) fun i d => d = pyG i.1 (closedW i.1 i.2)
abbrev sp__law_two : Sp := spI K (fun i : (Nat × F × F) × Tw => [.str (twN i.2), pyG i.1.1 i.1.2.1, pyG i.1.1 i.1.2.2]) (fun i => i.1.1 ≤ 4) fun i d => d = pyG i.1.1 (twF i.1.1 i.1.2.1 i.1.2.2 i.2)
structure IV where
  kn : List Str
  tn : List Str
  w : Wd
abbrev sp__law_value (m : Nat) : Sp := spI K (fun i : IV × E => [pyQ i.1.kn i.1.tn, pyW i.1.w, pyE i.2]) (fun i => WOk i.1.kn i.1.tn i.1.w ∧ eOk (i.1.kn ++ i.1.tn) i.2 ∧ eDep i.2 < m) fun i d => d = pyG i.1.w.n (val i.1.kn i.1.tn i.1.w i.2)
abbrev sp__law_counts : Sp := spI K (fun i : Nat × F => [pyG i.1 i.2]) (fun i => i.1 ≤ 4) fun i d => d = .list ((nums i.1 i.2).map nI)
abbrev sp__law_fact_kept : Sp := spI K (fun i : IV × Sg => [pyQ i.1.kn i.1.tn, pyW i.1.w, pyS i.2]) (fun i => WOk i.1.kn i.1.tn i.1.w ∧ sOk (i.1.kn ++ i.1.tn) i.2 ∧ isFact i.2 = true) fun i d => d = .bool (kept i.1.kn i.1.tn i.1.w i.2)
abbrev sp__law_kept (m : Nat) : Sp := spI K (fun i : IV × Sg => [pyQ i.1.kn i.1.tn, pyW i.1.w, pyS i.2]) (fun i => WOk i.1.kn i.1.tn i.1.w ∧ sOk (i.1.kn ++ i.1.tn) i.2 ∧ sDep i.2 < m) fun i d => d = .bool (kept i.1.kn i.1.tn i.1.w i.2)
abbrev sp__law_spots : Sp := spI K (fun i : List Str × List Str × Nat => [pyQ i.1 i.2.1, nI i.2.2]) (fun i => i.1.length ≤ 4 ∧ i.2.1.length ≤ 4 ∧ i.2.2 ≤ 4) fun i d => ∃ ss : List Spot, d = .list (ss.map pySp) ∧ ss.length ≤ 80 ∧ ∀ s, s ∈ ss → SpOk i.1 i.2.1 i.2.2 s
abbrev sp__law_bit_put : Sp := spI K (fun i : IV × Spot × Bool => [pyW i.1.w, pySp i.2.1, .bool i.2.2]) (fun i => WOk i.1.kn i.1.tn i.1.w ∧ i.1.kn.length ≤ 4 ∧ i.1.tn.length ≤ 4 ∧ SpOk i.1.kn i.1.tn i.1.w.n i.2.1) fun i d => d = pyW (put i.1.w i.2.1 i.2.2)
abbrev sp__law_picked : Sp := spI K (fun i : List Spot × Nat => [.list (i.1.map pySp), purseD, nI i.2]) (fun i => i.1.length ≤ 80 ∧ i.2 ≤ 4) fun i d => ∃ ps : List Spot, d = .list (ps.map pySp) ∧ ps.length ≤ i.2 ∧ ∀ s, s ∈ ps → s ∈ i.1
abbrev sp__law_between : Sp := spI K (fun i : IV × List Spot => [pyW i.1.w, .list (i.2.map pySp)]) (fun i => WOk i.1.kn i.1.tn i.1.w ∧ i.1.kn.length ≤ 4 ∧ i.1.tn.length ≤ 4 ∧ i.2.length ≤ 4 ∧ ∀ s, s ∈ i.2 → SpOk i.1.kn i.1.tn i.1.w.n s) fun i d => d = .list ((btw [i.1.w] i.2).map pyW)
abbrev sp__law_number : Sp := spI K (fun i : Nat × F => [pyG i.1 i.2]) (fun i => i.1 ≤ 4) fun i d => d = pyT i.1 i.2
structure ISo where
  b : IB
  ws : List Wd
  s : Sg
  e : E
abbrev sp__law_so : Sp := spI K (fun i : ISo => [pyQ i.b.kn i.b.tn, .tuple [pyW i.b.l, pyW i.b.h], .list (i.ws.map pyW), pyS i.s, pyE i.e])
  (fun i => i.b.Ok ∧ (∀ w, w ∈ i.ws → WOk i.b.kn i.b.tn w ∧ w.n = i.b.l.n ∧ Le i.b.l w ∧ Le w i.b.h) ∧ sOk (i.b.kn ++ i.b.tn) i.s ∧ sDep i.s < 9 ∧ eOk (i.b.kn ++ i.b.tn) i.e ∧ eDep i.e < 9) fun _ d => d = .bool true
abbrev sp__law_light : Sp := spI K (fun i : List Str × E => [purseD, pyL i.1, pyE i.2]) (fun i => i.1.length ≤ 8 ∧ eOk i.1 i.2 ∧ eDep i.2 < 9) fun i d => ∃ s : Sg, d = pyS s ∧ sOk i.1 s ∧ sDep s ≤ 1
abbrev sp_law : Sp := spI K (fun ns : List Int => [pyR ns]) (fun ns => ns.length ≤ 63) fun _ d => d = .bool true
end
/-! ### the int operations -/
section
abbrev qAdd : R2 := rI0 fun i j => .int (i + j)
abbrev qSub : R2 := rI0 fun i j => .int (i - j)
abbrev qMul : R2 := rI CMul fun i j => .int (i * j)
abbrev qFdv : R2 := rI CDivN fun i j => .int (i.fdiv j)
abbrev qMod : R2 := rI (fun _ j => j ≠ 0) fun i j => .int (i.fmod j)
abbrev qPow : R2 := rI CPow fun i j => .int (i ^ j.toNat)
abbrev qShl : R2 := rI CPow fun i j => .int (i * 2 ^ j.toNat)
abbrev qShr : R2 := rI (fun _ j => 0 ≤ j) fun i j => .int (i / 2 ^ j.toNat)
abbrev qAnd : R2 := rI0 fun i j => .int (Builtin.bitAnd i j)
abbrev qOr : R2 := rI0 fun i j => .int (Builtin.bitOr i j)
abbrev qXor : R2 := rI0 fun i j => .int (Builtin.bitXor i j)
abbrev qLt : R2 := rI0 fun i j => .bl (decide (i < j))
abbrev qLe : R2 := rI0 fun i j => .bl (decide (i ≤ j))
abbrev qGt : R2 := rI0 fun i j => .bl (decide (j < i))
abbrev qGe : R2 := rI0 fun i j => .bl (decide (j ≤ i))
abbrev qNeg : V → Hp → VK → Prop := rU fun i => .int (-i)
abbrev qLen (K : PySem.W.Frag) : List V → Hp → VK → Prop := fun xs H Q => ∃ p ys, xs = [V.ref p] ∧ (SqL K H p ys ∨ SqT K H p ys) ∧ Q (.int ys.length) H
variable {K : PySem.W.Frag} {es : Env} {te ta tb tc : TE} {i j k : Int} {a b c : Nat}
theorem e_add (ha : Ed K ta es (.int i)) (hb : Ed K tb es (.int j)) : Ed K (tOp qAdd ta tb) es (.int (i + j)) := e_opd ha hb (r_I0 (fun _ => .int _) rfl)
theorem e_sub (ha : Ed K ta es (.int i)) (hb : Ed K tb es (.int j)) : Ed K (tOp qSub ta tb) es (.int (i - j)) := e_opd ha hb (r_I0 (fun _ => .int _) rfl)
theorem e_mul (ha : Ed K ta es (.int i)) (hb : Ed K tb es (.int j)) (c : CMul i j) : Ed K (tOp qMul ta tb) es (.int (i * j)) := e_opd ha hb (r_I c (fun _ => .int _) rfl)
theorem e_fdv (ha : Ed K ta es (.int i)) (hb : Ed K tb es (.int j)) (c : CDivN i j) : Ed K (tOp qFdv ta tb) es (.int (i.fdiv j)) := e_opd ha hb (r_I c (fun _ => .int _) rfl)
theorem e_mod (ha : Ed K ta es (.int i)) (hb : Ed K tb es (.int j)) (c : j ≠ 0) : Ed K (tOp qMod ta tb) es (.int (i.fmod j)) := e_opd ha hb (r_I c (fun _ => .int _) rfl)
theorem e_pow (ha : Ed K ta es (.int i)) (hb : Ed K tb es (.int j)) (c : CPow i j) : Ed K (tOp qPow ta tb) es (.int (i ^ j.toNat)) := e_opd ha hb (r_I c (fun _ => .int _) rfl)
theorem e_lt (ha : Ed K ta es (.int i)) (hb : Ed K tb es (.int j)) : Ed K (tOp qLt ta tb) es (.bool (decide (i < j))) := e_opd ha hb (r_I0 (fun _ => .bl _) rfl)
theorem e_le (ha : Ed K ta es (.int i)) (hb : Ed K tb es (.int j)) : Ed K (tOp qLe ta tb) es (.bool (decide (i ≤ j))) := e_opd ha hb (r_I0 (fun _ => .bl _) rfl)
theorem e_gt (ha : Ed K ta es (.int i)) (hb : Ed K tb es (.int j)) : Ed K (tOp qGt ta tb) es (.bool (decide (j < i))) := e_opd ha hb (r_I0 (fun _ => .bl _) rfl)
theorem e_ge (ha : Ed K ta es (.int i)) (hb : Ed K tb es (.int j)) : Ed K (tOp qGe ta tb) es (.bool (decide (j ≤ i))) := e_opd ha hb (r_I0 (fun _ => .bl _) rfl)
theorem e_neg (ha : Ed K ta es (.int i)) : Ed K (tUn qNeg ta) es (.int (-i)) := fun σ F H s E Q q =>
  ha σ F H s E _ fun v F1 H1 x e1 hd ex => by
    subst ex
    exact ⟨i, hd.int_, q _ F1 H1 _ e1 (.int _) rfl⟩
/-! natural numbers: the same, told in them -/
theorem n_add (ha : Ed K ta es (nI a)) (hb : Ed K tb es (nI b)) : Ed K (tOp qAdd ta tb) es (nI (a + b)) := (e_add ha hb).is (congrArg PyData.int (Int.natCast_add a b).symm)
theorem n_mul (ha : Ed K ta es (nI a)) (hb : Ed K tb es (nI b)) (h : a < 1000000000) : Ed K (tOp qMul ta tb) es (nI (a * b)) := (e_mul ha hb (.inl (by omega))).is (congrArg PyData.int (Int.natCast_mul a b).symm)
theorem n_shr (ha : Ed K ta es (nI a)) (hb : Ed K tb es (nI b)) : Ed K (tOp qShr ta tb) es (nI (a >>> b)) :=
  (show Ed K (tOp qShr ta tb) es (.int ((a : Int) / 2 ^ (b : Int).toNat)) from e_opd ha hb (r_I (Int.natCast_nonneg b) (fun _ => .int _) rfl)).is (by
    rw [Nat.shiftRight_eq_div_pow, Int.toNat_natCast]; norm_cast)
theorem n_shl (ha : Ed K ta es (nI a)) (hb : Ed K tb es (nI b)) (h1 : a < 1000000000) (h2 : b ≤ 1000) : Ed K (tOp qShl ta tb) es (nI (a <<< b)) :=
  (show Ed K (tOp qShl ta tb) es (.int ((a : Int) * 2 ^ (b : Int).toNat)) from e_opd ha hb (r_I ⟨Int.natCast_nonneg b, by omega, by omega⟩ (fun _ => .int _) rfl)).is (by
    rw [Nat.shiftLeft_eq, Int.toNat_natCast]; norm_cast)
theorem n_and (ha : Ed K ta es (nI a)) (hb : Ed K tb es (nI b)) : Ed K (tOp qAnd ta tb) es (nI (a &&& b)) :=
  (show Ed K (tOp qAnd ta tb) es (.int (Builtin.bitAnd a b)) from e_opd ha hb (r_I0 (fun _ => .int _) rfl)).is (congrArg PyData.int (PySem.W.os_band a b))
theorem n_or (ha : Ed K ta es (nI a)) (hb : Ed K tb es (nI b)) : Ed K (tOp qOr ta tb) es (nI (a ||| b)) :=
  (show Ed K (tOp qOr ta tb) es (.int (Builtin.bitOr a b)) from e_opd ha hb (r_I0 (fun _ => .int _) rfl)).is (by
    rw [Bits.bitOr_pp (Int.natCast_nonneg a) (Int.natCast_nonneg b)]; rfl)
theorem n_xor (ha : Ed K ta es (nI a)) (hb : Ed K tb es (nI b)) : Ed K (tOp qXor ta tb) es (nI (a ^^^ b)) :=
  (show Ed K (tOp qXor ta tb) es (.int (Builtin.bitXor a b)) from e_opd ha hb (r_I0 (fun _ => .int _) rfl)).is (by
    rw [Bits.bitXor_pp (Int.natCast_nonneg a) (Int.natCast_nonneg b)]; rfl)
theorem n_sub (ha : Ed K ta es (nI a)) (hb : Ed K tb es (nI b)) (h : b ≤ a) : Ed K (tOp qSub ta tb) es (nI (a - b)) := (e_sub ha hb).is (congrArg PyData.int (Int.ofNat_sub h).symm)
theorem n_fdv (ha : Ed K ta es (nI a)) (hb : Ed K tb es (nI b)) (h0 : 0 < b) (h : b < 1000000000) : Ed K (tOp qFdv ta tb) es (nI (a / b)) := (e_fdv ha hb ⟨by omega, by omega⟩).is (by
  rw [Int.fdiv_eq_ediv_of_nonneg _ (by omega)]; norm_cast)
theorem n_mod (ha : Ed K ta es (nI a)) (hb : Ed K tb es (nI b)) (h0 : 0 < b) : Ed K (tOp qMod ta tb) es (nI (a % b)) := (e_mod ha hb (by omega)).is (by
  rw [Int.fmod_eq_emod_of_nonneg _ (by omega)]; norm_cast)
theorem n_eq (ha : Ed K ta es (nI a)) (hb : Ed K tb es (nI b)) : Ed K (tOp rEq ta tb) es (.bool (decide (a = b))) := (e_eqI ha hb).is (by rw [PyData.bool.injEq]; apply decide_eq_decide.mpr; omega)
theorem n_ne (ha : Ed K ta es (nI a)) (hb : Ed K tb es (nI b)) : Ed K (tOp rNe ta tb) es (.bool (!decide (a = b))) := (e_neI ha hb).is (by rw [PyData.bool.injEq]; congr 1; apply decide_eq_decide.mpr; omega)
theorem n_lt (ha : Ed K ta es (nI a)) (hb : Ed K tb es (nI b)) : Ed K (tOp qLt ta tb) es (.bool (decide (a < b))) := (e_lt ha hb).is (by rw [PyData.bool.injEq]; apply decide_eq_decide.mpr; omega)
theorem n_gt (ha : Ed K ta es (nI a)) (hb : Ed K tb es (nI b)) : Ed K (tOp qGt ta tb) es (.bool (decide (b < a))) := (e_gt ha hb).is (by rw [PyData.bool.injEq]; apply decide_eq_decide.mpr; omega)
theorem n_ge (ha : Ed K ta es (nI a)) (hb : Ed K tb es (nI b)) : Ed K (tOp qGe ta tb) es (.bool (decide (b ≤ a))) := (e_ge ha hb).is (by rw [PyData.bool.injEq]; apply decide_eq_decide.mpr; omega)
theorem n_le (ha : Ed K ta es (nI a)) (hb : Ed K tb es (nI b)) : Ed K (tOp qLe ta tb) es (.bool (decide (a ≤ b))) := (e_le ha hb).is (by rw [PyData.bool.injEq]; apply decide_eq_decide.mpr; omega)
theorem n_c {n : Nat} : Ed K (tC (.int (n : Int))) es (nI n) := e_int
theorem atI_n {ds : List PyData} {k : Nat} {d : PyData} (h : ds[k]? = some d) : L2.atI ds (k : Int) = some d := atI_nat h
end
end Wf


set_option maxHeartbeats 4000000

/-! The readings of the defs: printed by gen.py. -/
namespace Wf
open PySem PySem.Spec PyProof.Rows L2
section
/-- is_within; slots: 0 size, 1 thing -/
def t_is_within (K : PySem.W.Frag) : TS := (tRet (tAndV (tIsi K "int" (tVar 1)) (tAndV (tNotV (tIsi K "bool" (tVar 1))) (tChain qLe qLt (tC (.int 0)) (tVar 1) (tVar 0)))))
/-- row_of; slots: 0 size, 1 tie, 2 a -/
def t_row_of (K : PySem.W.Frag) : TS := (tRet (tOp qAnd (tOp qShr (tVar 1) (tOp qMul (tVar 2) (tVar 0))) (tOp qSub (tOp qShl (tC (.int 1)) (tVar 0)) (tC (.int 1)))))
/-- pairs_of; slots: 0 size, 1 tie, 2 found, 3 a, 4 b -/
def t_pairs_of (K : PySem.W.Frag) : TS := (tSeq (tAsg (tLst tNil) (gName 2))
    (tSeq (tFor (iRng1 (tCons (tVar 0) tNil)) (gName 3) (tFor (iRng1 (tCons (tVar 0) tNil)) (gName 4) (tIfS (tTest (tOp rEq (tOp qAnd (tOp qShr (tVar 1) (tOp qAdd (tOp qMul (tVar 3) (tVar 0)) (tVar 4))) (tC (.int 1))) (tC (.int 1)))) (tDrop (tBM K "list" rAppend (tVar 2) (tCons (tTup (tCons (tVar 3) (tCons (tVar 4) tNil))) tNil))) tNext)))
    (tRet (tVar 2))))
/-- tie_of; slots: 0 size, 1 pairs, 2 found, 3 a, 4 b -/
def t_tie_of (K : PySem.W.Frag) : TS := (tSeq (tAsg (tC (.int 0)) (gName 2))
    (tSeq (tFor (iList K (tVar 1)) (gTup K 2 (gCons (gName 3) (gCons (gName 4) gNil))) (tSeq (tIfS (tOr (tNot (tB (tCall (sp_is_within K) [] E0 (tCons (tVar 0) (tCons (tVar 3) tNil))))) (tNot (tB (tCall (sp_is_within K) [] E0 (tCons (tVar 0) (tCons (tVar 4) tNil)))))) tNever tNext)
    (tAsg (tOp qOr (tVar 2) (tOp qShl (tC (.int 1)) (tOp qAdd (tOp qMul (tVar 3) (tVar 0)) (tVar 4)))) (gName 2))))
    (tRet (tVar 2))))
/-- common; slots: 0 one, 1 other -/
def t_common (K : PySem.W.Frag) : TS := (tRet (tOp qAnd (tVar 0) (tVar 1)))
/-- either; slots: 0 one, 1 other -/
def t_either (K : PySem.W.Frag) : TS := (tRet (tOp qOr (tVar 0) (tVar 1)))
/-- without; slots: 0 one, 1 other -/
def t_without (K : PySem.W.Frag) : TS := (tRet (tOp qXor (tVar 0) (tOp qAnd (tVar 0) (tVar 1))))
/-- turned; slots: 0 size, 1 tie, 2 found, 3 a, 4 b -/
def t_turned (K : PySem.W.Frag) : TS := (tSeq (tAsg (tC (.int 0)) (gName 2))
    (tSeq (tFor (iList K (tCall (sp_pairs_of K) [] E0 (tCons (tVar 0) (tCons (tVar 1) tNil)))) (gTup K 2 (gCons (gName 3) (gCons (gName 4) gNil))) (tAsg (tOp qOr (tVar 2) (tOp qShl (tC (.int 1)) (tOp qAdd (tOp qMul (tVar 4) (tVar 0)) (tVar 3)))) (gName 2)))
    (tRet (tVar 2))))
/-- joined; slots: 0 size, 1 one, 2 other, 3 found, 4 a, 5 b -/
def t_joined (K : PySem.W.Frag) : TS := (tSeq (tAsg (tC (.int 0)) (gName 3))
    (tSeq (tFor (iList K (tCall (sp_pairs_of K) [] E0 (tCons (tVar 0) (tCons (tVar 1) tNil)))) (gTup K 2 (gCons (gName 4) (gCons (gName 5) gNil))) (tAsg (tOp qOr (tVar 3) (tOp qShl (tCall (sp_row_of K) [] E0 (tCons (tVar 0) (tCons (tVar 2) (tCons (tVar 5) tNil)))) (tOp qMul (tVar 4) (tVar 0)))) (gName 3)))
    (tRet (tVar 3))))
/-- closed; slots: 0 size, 1 tie, 2 found, 3 step -/
def t_closed (K : PySem.W.Frag) : TS := (tSeq (tAsg (tVar 1) (gName 2))
    (tSeq (tFor (iRng1 (tCons (tVar 0) tNil)) (gName 3) (tAsg (tOp qOr (tVar 2) (tCall (sp_joined K) [] E0 (tCons (tVar 0) (tCons (tVar 2) (tCons (tVar 1) tNil))))) (gName 2)))
    (tRet (tVar 2))))
/-- same; slots: 0 size, 1 a -/
def t_same (K : PySem.W.Frag) : TS := (tRet (tCall (sp_tie_of K) [] E0 (tCons (tVar 0) (tCons (tLc (iRng1 (tCons (tVar 0) tNil)) (gName 1) tYes (tTup (tCons (tVar 1) (tCons (tVar 1) tNil))) [1]) tNil))))
/-- every; slots: 0 size -/
def t_every (K : PySem.W.Frag) : TS := (tRet (tOp qSub (tOp qShl (tC (.int 1)) (tOp qMul (tVar 0) (tVar 0))) (tC (.int 1))))
/-- kind_tie; slots: 0 size, 1 kind, 2 tie, 3 a -/
def t_kind_tie (K : PySem.W.Frag) : TS := (tSeq (tAsg (tC (.int 0)) (gName 2))
    (tSeq (tFor (iRng1 (tCons (tVar 0) tNil)) (gName 3) (tIfS (tTest (tOp rEq (tOp qAnd (tOp qShr (tVar 1) (tVar 3)) (tC (.int 1))) (tC (.int 1)))) (tAsg (tOp qOr (tVar 2) (tOp qShl (tC (.int 1)) (tOp qAdd (tOp qMul (tVar 3) (tVar 0)) (tVar 3)))) (gName 2)) tNext))
    (tRet (tVar 2))))
/-- named; slots: 0 words, 1 world, 2 name, 3 size, 4 kinds, 5 ties -/
def t_named (K : PySem.W.Frag) : TS := (tSeq (tAsg (tVar 1) (gTup K 3 (gCons (gName 3) (gCons (gName 4) (gCons (gName 5) gNil)))))
    (tSeq (tIfS (tTest (tOp (rIn K false) (tVar 2) (tOp (rIxT K) (tVar 0) (tC (.int 0))))) (tRet (tCall (sp_kind_tie K) [] E0 (tCons (tVar 3) (tCons (tOp (rIxT K) (tVar 4) (tTIx K (tOp (rIxT K) (tVar 0) (tC (.int 0))) (tCons (tVar 2) tNil))) tNil)))) tNext)
    (tRet (tOp (rIxT K) (tVar 5) (tTIx K (tOp (rIxT K) (tVar 0) (tC (.int 1))) (tCons (tVar 2) tNil))))))
/-- made; slots: 0 size, 1 word, 2 parts -/
def t_made (K : PySem.W.Frag) : TS := (tSeq (tIfS (tTest (tOp rEq (tVar 1) (tC (.str "same")))) (tRet (tCall (sp_same K) [] E0 (tCons (tVar 0) tNil))) tNext)
    (tSeq (tIfS (tTest (tOp rEq (tVar 1) (tC (.str "all")))) (tRet (tCall (sp_every K) [] E0 (tCons (tVar 0) tNil))) tNext)
    (tSeq (tIfS (tTest (tOp rEq (tVar 1) (tC (.str "none")))) (tRet (tC (.int 0))) tNext)
    (tSeq (tIfS (tTest (tOp rEq (tVar 1) (tC (.str "plus")))) (tRet (tCall (sp_either K) [] E0 (tCons (tOp (rIxL K) (tVar 2) (tC (.int 0))) (tCons (tOp (rIxL K) (tVar 2) (tC (.int 1))) tNil)))) tNext)
    (tSeq (tIfS (tTest (tOp rEq (tVar 1) (tC (.str "less")))) (tRet (tCall (sp_without K) [] E0 (tCons (tOp (rIxL K) (tVar 2) (tC (.int 0))) (tCons (tOp (rIxL K) (tVar 2) (tC (.int 1))) tNil)))) tNext)
    (tSeq (tIfS (tTest (tOp rEq (tVar 1) (tC (.str "both")))) (tRet (tCall (sp_common K) [] E0 (tCons (tOp (rIxL K) (tVar 2) (tC (.int 0))) (tCons (tOp (rIxL K) (tVar 2) (tC (.int 1))) tNil)))) tNext)
    (tSeq (tIfS (tTest (tOp rEq (tVar 1) (tC (.str "joined")))) (tRet (tCall (sp_joined K) [] E0 (tCons (tVar 0) (tCons (tOp (rIxL K) (tVar 2) (tC (.int 0))) (tCons (tOp (rIxL K) (tVar 2) (tC (.int 1))) tNil))))) tNext)
    (tSeq (tIfS (tTest (tOp rEq (tVar 1) (tC (.str "turned")))) (tRet (tCall (sp_turned K) [] E0 (tCons (tVar 0) (tCons (tOp (rIxL K) (tVar 2) (tC (.int 0))) tNil)))) tNext)
    (tRet (tCall (sp_closed K) [] E0 (tCons (tVar 0) (tCons (tOp (rIxL K) (tVar 2) (tC (.int 0))) tNil))))))))))))
/-- tied_numbers; slots: 0 size, 1 tie, 2 numbers, 3 a, 4 b -/
def t_tied_numbers (K : PySem.W.Frag) : TS := (tSeq (tAsg (tOp rRep (tLst (tCons (tC (.int 0)) tNil)) (tVar 0)) (gName 2))
    (tSeq (tFor (iList K (tCall (sp_pairs_of K) [] E0 (tCons (tVar 0) (tCons (tVar 1) tNil)))) (gTup K 2 (gCons (gName 3) (gCons (gName 4) gNil))) (tAugS (tVar 2) (tVar 3) (tC (.int 1)) (rGetL K) (ipI fun i j => i + j) rSetL))
    (tRet (tVar 2))))
/-- bounds; slots: 0 words, 1 part, 2 expression, 3 low, 4 high, 5 word, 6 inner, 7 musts, 8 mays, 9 other, 10 must, 11 may -/
def t_bounds (K : PySem.W.Frag) (m : Nat) : TS := (tSeq (tAsg (tVar 1) (gTup K 2 (gCons (gName 3) (gCons (gName 4) gNil))))
    (tSeq (tAsg (tOp (rIxT K) (tVar 2) (tC (.int 0))) (gName 5))
    (tSeq (tIfS (tTest (tOp rEq (tVar 5) (tC (.str "name")))) (tRet (tTup (tCons (tCall (sp_named K) [] E0 (tCons (tVar 0) (tCons (tVar 3) (tCons (tOp (rIxT K) (tVar 2) (tC (.int 1))) tNil)))) (tCons (tCall (sp_named K) [] E0 (tCons (tVar 0) (tCons (tVar 4) (tCons (tOp (rIxT K) (tVar 2) (tC (.int 1))) tNil)))) tNil)))) tNext)
    (tSeq (tAsg (tLc (iTup K (tSl (rSlA K) (tVar 2) (tPart (tC (.int 1))) tNoPart)) (gName 9) tYes (tCall (sp_bounds K m) [] E0 (tCons (tVar 0) (tCons (tVar 1) (tCons (tVar 9) tNil)))) [9]) (gName 6))
    (tSeq (tAsg (tLc (iList K (tVar 6)) (gTup K 2 (gCons (gName 10) (gCons (gName 11) gNil))) tYes (tVar 10) [10, 11]) (gName 7))
    (tSeq (tAsg (tLc (iList K (tVar 6)) (gTup K 2 (gCons (gName 10) (gCons (gName 11) gNil))) tYes (tVar 11) [10, 11]) (gName 8))
    (tSeq (tIfS (tTest (tOp rEq (tVar 5) (tC (.str "less")))) (tRet (tTup (tCons (tCall (sp_without K) [] E0 (tCons (tOp (rIxL K) (tVar 7) (tC (.int 0))) (tCons (tOp (rIxL K) (tVar 8) (tC (.int 1))) tNil))) (tCons (tCall (sp_without K) [] E0 (tCons (tOp (rIxL K) (tVar 8) (tC (.int 0))) (tCons (tOp (rIxL K) (tVar 7) (tC (.int 1))) tNil))) tNil)))) tNext)
    (tRet (tTup (tCons (tCall (sp_made K) [] E0 (tCons (tOp (rIxT K) (tVar 3) (tC (.int 0))) (tCons (tVar 5) (tCons (tVar 7) tNil)))) (tCons (tCall (sp_made K) [] E0 (tCons (tOp (rIxT K) (tVar 3) (tC (.int 0))) (tCons (tVar 5) (tCons (tVar 8) tNil)))) tNil)))))))))))
/-- told_in; slots: 0 one, 1 other -/
def t_told_in (K : PySem.W.Frag) : TS := (tSeq (tIfS (tTest (tOp rEq (tCall (sp_without K) [] E0 (tCons (tOp (rIxT K) (tVar 0) (tC (.int 1))) (tCons (tOp (rIxT K) (tVar 1) (tC (.int 0))) tNil))) (tC (.int 0)))) (tRet (tC (.bl true))) tNext)
    (tSeq (tIfS (tTest (tOp rNe (tCall (sp_without K) [] E0 (tCons (tOp (rIxT K) (tVar 0) (tC (.int 0))) (tCons (tOp (rIxT K) (tVar 1) (tC (.int 1))) tNil))) (tC (.int 0)))) (tRet (tC (.bl false))) tNext)
    (tRet (tC .non))))
/-- told_both; slots: 0 one, 1 other -/
def t_told_both (K : PySem.W.Frag) : TS := (tSeq (tIfS (tOr (tTest (tOp rIsX (tVar 0) (tC (.bl false)))) (tTest (tOp rIsX (tVar 1) (tC (.bl false))))) (tRet (tC (.bl false))) tNext)
    (tSeq (tIfS (tOr (tTest (tOp rIsN (tVar 0) (tC .non))) (tTest (tOp rIsN (tVar 1) (tC .non)))) (tRet (tC .non)) tNext)
    (tRet (tC (.bl true)))))
/-- told_not; slots: 0 one -/
def t_told_not (K : PySem.W.Frag) : TS := (tSeq (tIfS (tTest (tOp rIsN (tVar 0) (tC .non))) (tRet (tC .non)) tNext)
    (tRet (tNotV (tVar 0))))
/-- told_least; slots: 0 low, 1 high, 2 number, 3 one -/
def t_told_least (K : PySem.W.Frag) : TS := (tSeq (tIfS (tB (tCB (rAll K) (tCons (tLc (iList K (tVar 0)) (gName 3) tYes (tOp qGe (tVar 3) (tVar 2)) [3]) tNil))) (tRet (tC (.bl true))) tNext)
    (tSeq (tIfS (tB (tCB (rAny K) (tCons (tLc (iList K (tVar 1)) (gName 3) tYes (tOp qLt (tVar 3) (tVar 2)) [3]) tNil))) (tRet (tC (.bl false))) tNext)
    (tRet (tC .non))))
/-- told_most; slots: 0 low, 1 high, 2 number, 3 one -/
def t_told_most (K : PySem.W.Frag) : TS := (tSeq (tIfS (tB (tCB (rAll K) (tCons (tLc (iList K (tVar 1)) (gName 3) tYes (tOp qLe (tVar 3) (tVar 2)) [3]) tNil))) (tRet (tC (.bl true))) tNext)
    (tSeq (tIfS (tB (tCB (rAny K) (tCons (tLc (iList K (tVar 0)) (gName 3) tYes (tOp qGt (tVar 3) (tVar 2)) [3]) tNil))) (tRet (tC (.bl false))) tNext)
    (tRet (tC .non))))
/-- told_fact; slots: 0 size, 1 saying, 2 parts, 3 word, 4 must, 5 may, 6 low, 7 high -/
def t_told_fact (K : PySem.W.Frag) : TS := (tSeq (tAsg (tOp (rIxT K) (tVar 1) (tC (.int 0))) (gName 3))
    (tSeq (tIfS (tTest (tOp rEq (tVar 3) (tC (.str "in")))) (tRet (tCall (sp_told_in K) [] E0 (tCons (tOp (rIxL K) (tVar 2) (tC (.int 0))) (tCons (tOp (rIxL K) (tVar 2) (tC (.int 1))) tNil)))) tNext)
    (tSeq (tIfS (tTest (tOp rEq (tVar 3) (tC (.str "equal")))) (tRet (tCall (sp_told_both K) [] E0 (tCons (tCall (sp_told_in K) [] E0 (tCons (tOp (rIxL K) (tVar 2) (tC (.int 0))) (tCons (tOp (rIxL K) (tVar 2) (tC (.int 1))) tNil))) (tCons (tCall (sp_told_in K) [] E0 (tCons (tOp (rIxL K) (tVar 2) (tC (.int 1))) (tCons (tOp (rIxL K) (tVar 2) (tC (.int 0))) tNil))) tNil)))) tNext)
    (tSeq (tAsg (tOp (rIxL K) (tVar 2) (tC (.int 0))) (gTup K 2 (gCons (gName 4) (gCons (gName 5) gNil))))
    (tSeq (tAsg (tCall (sp_tied_numbers K) [] E0 (tCons (tVar 0) (tCons (tVar 4) tNil))) (gName 6))
    (tSeq (tAsg (tCall (sp_tied_numbers K) [] E0 (tCons (tVar 0) (tCons (tVar 5) tNil))) (gName 7))
    (tSeq (tIfS (tTest (tOp rEq (tVar 3) (tC (.str "eachleast")))) (tRet (tCall (sp_told_least K) [] E0 (tCons (tVar 6) (tCons (tVar 7) (tCons (tOp (rIxT K) (tVar 1) (tC (.int 1))) tNil))))) tNext)
    (tSeq (tIfS (tTest (tOp rEq (tVar 3) (tC (.str "eachmost")))) (tRet (tCall (sp_told_most K) [] E0 (tCons (tVar 6) (tCons (tVar 7) (tCons (tOp (rIxT K) (tVar 1) (tC (.int 1))) tNil))))) tNext)
    (tSeq (tIfS (tTest (tOp rEq (tVar 3) (tC (.str "some")))) (tRet (tCall (sp_told_least K) [] E0 (tCons (tLst (tCons (tCB (rSum K) (tCons (tVar 6) tNil)) tNil)) (tCons (tLst (tCons (tCB (rSum K) (tCons (tVar 7) tNil)) tNil)) (tCons (tC (.int 1)) tNil))))) tNext)
    (tSeq (tIfS (tTest (tOp rEq (tVar 3) (tC (.str "no")))) (tRet (tCall (sp_told_most K) [] E0 (tCons (tLst (tCons (tCB (rSum K) (tCons (tVar 6) tNil)) tNil)) (tCons (tLst (tCons (tCB (rSum K) (tCons (tVar 7) tNil)) tNil)) (tCons (tC (.int 0)) tNil))))) tNext)
    (tSeq (tIfS (tTest (tOp rEq (tVar 3) (tC (.str "least")))) (tRet (tCall (sp_told_least K) [] E0 (tCons (tLst (tCons (tCB (rSum K) (tCons (tVar 6) tNil)) tNil)) (tCons (tLst (tCons (tCB (rSum K) (tCons (tVar 7) tNil)) tNil)) (tCons (tOp (rIxT K) (tVar 1) (tC (.int 1))) tNil))))) tNext)
    (tRet (tCall (sp_told_most K) [] E0 (tCons (tLst (tCons (tCB (rSum K) (tCons (tVar 6) tNil)) tNil)) (tCons (tLst (tCons (tCB (rSum K) (tCons (tVar 7) tNil)) tNil)) (tCons (tOp (rIxT K) (tVar 1) (tC (.int 1))) tNil))))))))))))))))
/-- told; slots: 0 words, 1 part, 2 saying, 3 word, 4 parts, 5 one, 6 other -/
def t_told (K : PySem.W.Frag) (m : Nat) : TS := (tSeq (tAsg (tOp (rIxT K) (tVar 2) (tC (.int 0))) (gName 3))
    (tSeq (tIfS (tTest (tOp rEq (tVar 3) (tC (.str "not")))) (tRet (tCall (sp_told_not K) [] E0 (tCons (tCall (sp_told K m) [] E0 (tCons (tVar 0) (tCons (tVar 1) (tCons (tOp (rIxT K) (tVar 2) (tC (.int 1))) tNil)))) tNil))) tNext)
    (tSeq (tIfS (tTest (tOp rEq (tVar 3) (tC (.str "and")))) (tRet (tCall (sp_told_both K) [] E0 (tCons (tCall (sp_told K m) [] E0 (tCons (tVar 0) (tCons (tVar 1) (tCons (tOp (rIxT K) (tVar 2) (tC (.int 1))) tNil)))) (tCons (tCall (sp_told K m) [] E0 (tCons (tVar 0) (tCons (tVar 1) (tCons (tOp (rIxT K) (tVar 2) (tC (.int 2))) tNil)))) tNil)))) tNext)
    (tSeq (tIfS (tTest (tOp rEq (tVar 3) (tC (.str "or")))) (tSeq (tAsg (tCall (sp_told_not K) [] E0 (tCons (tCall (sp_told K m) [] E0 (tCons (tVar 0) (tCons (tVar 1) (tCons (tOp (rIxT K) (tVar 2) (tC (.int 1))) tNil)))) tNil)) (gName 5))
    (tSeq (tAsg (tCall (sp_told_not K) [] E0 (tCons (tCall (sp_told K m) [] E0 (tCons (tVar 0) (tCons (tVar 1) (tCons (tOp (rIxT K) (tVar 2) (tC (.int 2))) tNil)))) tNil)) (gName 6))
    (tRet (tCall (sp_told_not K) [] E0 (tCons (tCall (sp_told_both K) [] E0 (tCons (tVar 5) (tCons (tVar 6) tNil))) tNil))))) tNext)
    (tSeq (tAsg (tLc (iTup K (tSl (rSlA K) (tVar 2) (tPart (tC (.int 1))) tNoPart)) (gName 6) (tB (tIsi K "tuple" (tVar 6))) (tCall (sp_bounds K 9) [] E0 (tCons (tVar 0) (tCons (tVar 1) (tCons (tVar 6) tNil)))) [6]) (gName 4))
    (tRet (tCall (sp_told_fact K) [] E0 (tCons (tOp (rIxT K) (tOp (rIxT K) (tVar 1) (tC (.int 0))) (tC (.int 0))) (tCons (tVar 2) (tCons (tVar 4) tNil))))))))))
/-- _law_cell; slots: 0 _law_script, 1 _law_k -/
def t__law_cell (K : PySem.W.Frag) : TS := (tRet (tCB (rSum K) (tCons (tSl (rSlL K) (tVar 0) (tPart (tVar 1)) (tPart (tOp qAdd (tVar 1) (tC (.int 1))))) tNil)))
/-- _law_purse; slots: 0 _law_script, 1 _law_k, 2 _law_cell_here -/
def t__law_purse (K : PySem.W.Frag) : TS := (tSeq (tAsg (tCall (sp__law_cell K) [] E0 (tCons (tVar 0) (tCons (tVar 1) tNil))) (gName 2))
    (tSeq (tIfS (tTest (tOp rEq (tOp qMod (tCall (sp__law_cell K) [] E0 (tCons (tVar 0) (tCons (tC (.int 0)) tNil))) (tC (.int 2))) (tC (.int 1)))) (tRet (tPur (tLst (tCons (tOp qFdv (tVar 2) (tOp (rIxL K) (tLst (tCons (tC (.int 1)) (tCons (tC (.int 2)) tNil))) (tCB rInt1 (tCons (tOp rEq (tVar 1) (tC (.int 0))) tNil)))) (tCons (tC (.int 1)) (tCons (tC (.int 60)) tNil)))))) tNext)
    (tRet (tPur (tLst (tCons (tOp qAdd (tOp qMod (tVar 2) (tC (.int 1000000093))) (tC (.int 5))) (tCons (tC (.int 0)) (tCons (tC (.int 900)) tNil))))))))
/-- _law_next; slots: 0 _law_purse_here, 1 _law_many, 2 _law_other, 3 _law_answer -/
def t__law_next (K : PySem.W.Frag) : TS := (tOpen 0 (tSeq (tAsg (tOp qSub (tOp (rIxL K) (tVar 0) (tC (.int 2))) (tC (.int 1))) (gSub (tVar 0) (tC (.int 2)) rSetL))
    (tSeq (tIfS (tTest (tOp qLt (tOp (rIxL K) (tVar 0) (tC (.int 2))) (tC (.int 0)))) (tRet (tC (.int 0))) tNext)
    (tSeq (tIfS (tTest (tOp rEq (tOp (rIxL K) (tVar 0) (tC (.int 1))) (tC (.int 1)))) (tSeq (tAsg (tOp qMod (tOp (rIxL K) (tVar 0) (tC (.int 0))) (tVar 1)) (gName 3))
    (tSeq (tAsg (tOp qFdv (tOp (rIxL K) (tVar 0) (tC (.int 0))) (tVar 1)) (gSub (tVar 0) (tC (.int 0)) rSetL))
    (tRet (tVar 3)))) tNext)
    (tSeq (tAsg (tOp qMod (tOp qAdd (tOp qAdd (tOp qMul (tOp (rIxL K) (tVar 0) (tC (.int 0))) (tC (.int 48817))) (tOp qMul (tC (.int 65029)) (tOp (rIxL K) (tVar 0) (tC (.int 2))))) (tC (.int 501))) (tC (.int 1000000093))) (gSub (tVar 0) (tC (.int 0)) rSetL))
    (tSeq (tAsg (tOp qMod (tOp qMul (tOp (rIxL K) (tVar 0) (tC (.int 0))) (tOp qAdd (tOp qFdv (tOp (rIxL K) (tVar 0) (tC (.int 0))) (tC (.int 2053))) (tC (.int 613)))) (tC (.int 998244353))) (gName 2))
    (tRet (tOp qMod (tOp qMod (tOp qAdd (tOp qMul (tVar 2) (tVar 2)) (tOp (rIxL K) (tVar 0) (tC (.int 0)))) (tC (.int 1000000087))) (tVar 1)))))))))
/-- _law_family; slots: 0 _law_cell_here, 1 _law_many, 2 _law_letters, 3 _law_first, 4 _law_stem, 5 _law_at, 6 _law_near, 7 _law_k -/
def t__law_family (K : PySem.W.Frag) : TS := (tSeq (tAsg (tC (.str "abcdefghijklmnopqrstuvwxyz")) (gName 2))
    (tSeq (tAsg (tOp qMod (tOp qFdv (tVar 0) (tC (.int 4))) (tC (.int 26))) (gName 3))
    (tSeq (tIfS (tTest (tOp rEq (tOp qMod (tVar 0) (tC (.int 4))) (tC (.int 0)))) (tRet (tLc (iRng1 (tCons (tVar 1) tNil)) (gName 7) tYes (tOp rIxS (tVar 2) (tOp qMod (tOp qAdd (tVar 3) (tOp qMul (tOp qAdd (tC (.int 1)) (tOp qMul (tC (.int 2)) (tOp qMod (tOp qFdv (tVar 0) (tC (.int 104))) (tC (.int 6))))) (tVar 7))) (tC (.int 26)))) [7])) tNext)
    (tSeq (tIfS (tTest (tOp rEq (tOp qMod (tVar 0) (tC (.int 4))) (tC (.int 1)))) (tRet (tLc (iRng1 (tCons (tVar 1) tNil)) (gName 7) tYes (tSl rSlS (tOp rAddS' (tC (.str "q")) (tOp rMulS (tOp rIxS (tVar 2) (tVar 3)) (tC (.int 7)))) tNoPart (tPart (tOp qAdd (tVar 7) (tC (.int 1))))) [7])) tNext)
    (tSeq (tIfS (tTest (tOp rEq (tOp qMod (tVar 0) (tC (.int 4))) (tC (.int 2)))) (tSeq (tAsg (tLst (tCons (tC (.str "nota")) (tCons (tC (.str "orb")) (tCons (tC (.str "andy")) (tCons (tC (.str "inn")) (tCons (tC (.str "alls")) (tCons (tC (.str "samey")) (tCons (tC (.str "nonea")) (tCons (tC (.str "eachs")) (tCons (tC (.str "leasts")) (tCons (tC (.str "mosty")) (tCons (tC (.str "somes")) (tCons (tC (.str "noa")) tNil))))))))))))) (gName 6))
    (tSeq (tAsg (tOp rCat (tVar 6) (tLst (tCons (tC (.str "kinda")) (tCons (tC (.str "ties")) (tCons (tC (.str "says")) (tCons (tC (.str "i")) tNil)))))) (gName 6))
    (tRet (tLc (iRng1 (tCons (tVar 1) tNil)) (gName 7) tYes (tOp (rIxL K) (tVar 6) (tOp qMod (tOp qAdd (tVar 3) (tOp qMul (tC (.int 3)) (tVar 7))) (tC (.int 16)))) [7])))) tNext)
    (tSeq (tAsg (tSl rSlS (tOp rAddS' (tC (.str "q")) (tOp rMulS (tOp rIxS (tVar 2) (tVar 3)) (tC (.int 6)))) tNoPart (tPart (tOp qAdd (tC (.int 1)) (tOp qMod (tOp qFdv (tVar 0) (tC (.int 104))) (tC (.int 7)))))) (gName 4))
    (tSeq (tAsg (tOp qMod (tOp qFdv (tVar 0) (tC (.int 728))) (tOp qAdd (tCB rLenS (tCons (tVar 4) tNil)) (tC (.int 1)))) (gName 5))
    (tRet (tLc (iRng1 (tCons (tVar 1) tNil)) (gName 7) tYes (tOp rAddS' (tOp rAddS' (tSl rSlS (tVar 4) tNoPart (tPart (tVar 5))) (tOp rIxS (tVar 2) (tOp qMod (tOp qAdd (tOp qAdd (tVar 3) (tC (.int 1))) (tOp qMul (tC (.int 3)) (tVar 7))) (tC (.int 26))))) (tSl rSlS (tVar 4) (tPart (tVar 5)) tNoPart)) [7])))))))))
/-- _law_any_names; slots: 0 _law_script, 1 _law_kinds, 2 _law_ties, 3 _law_letters, 4 _law_taken, 5 _law_answer, 6 _law_purse_here, 7 _law_size_here, 8 _law_name, 9 _law_some, 10 _law_k, 11 _law_sign, 12 _law_one -/
def t__law_any_names (K : PySem.W.Frag) : TS := (tSeq (tAsg (tC (.str "abcdefghijklmnopqrstuvwxyz")) (gName 3))
    (tSeq (tAsg (tLst (tCons (tC (.str "some")) (tCons (tC (.str "no")) (tCons (tC (.str "least")) (tCons (tC (.str "most")) (tCons (tC (.str "each")) (tCons (tC (.str "in")) (tCons (tC (.str "and")) (tCons (tC (.str "or")) (tCons (tC (.str "not")) (tCons (tC (.str "same")) (tCons (tC (.str "all")) (tCons (tC (.str "none")) (tCons (tC (.str "kind")) (tCons (tC (.str "tie")) tNil))))))))))))))) (gName 4))
    (tSeq (tAsg (tLst (tCons (tC (.str "say")) tNil)) (gName 5))
    (tSeq (tFor (iList K (tOp rCat (tOp rRep (tLst (tCons (tCall (sp__law_purse K) [] E0 (tCons (tVar 0) (tCons (tC (.int 1)) tNil))) tNil)) (tVar 1)) (tOp rRep (tLst (tCons (tCall (sp__law_purse K) [] E0 (tCons (tVar 0) (tCons (tC (.int 2)) tNil))) tNil)) (tVar 2)))) (gName 6) (tSeq (tAsg (tOp qAdd (tC (.int 1)) (tCall (sp__law_next K) [] E0 (tCons (tVar 6) (tCons (tC (.int 8)) tNil)))) (gName 7))
    (tSeq (tAsg (tM1 (rJoin K) (tC (.str "")) (tLc (iRng1 (tCons (tVar 7) tNil)) (gName 10) tYes (tOp rIxS (tVar 3) (tCall (sp__law_next K) [] E0 (tCons (tVar 6) (tCons (tC (.int 26)) tNil)))) [10])) (gName 8))
    (tSeq (tIfS (tTest (tOp (rIn K false) (tVar 8) (tOp rCat (tVar 4) (tVar 5)))) (tSeq (tAsg (tLc (iStr (tVar 3)) (gName 11) tYes (tOp rAddS' (tSl rSlS (tVar 8) tNoPart (tPart (tC (.int 7)))) (tVar 11)) [11]) (gName 9))
    (tAsg (tOp (rIxL K) (tLc (iList K (tVar 9)) (gName 12) (tTest (tOp (rIn K true) (tVar 12) (tOp rCat (tVar 4) (tVar 5)))) (tVar 12) [12]) (tC (.int 0))) (gName 8))) tNext)
    (tDrop (tBM K "list" rAppend (tVar 5) (tCons (tVar 8) tNil)))))))
    (tRet (tSl (rSlL K) (tVar 5) (tPart (tC (.int 1))) tNoPart))))))
/-- _law_words; slots: 0 _law_script, 1 _law_purse_here, 2 _law_kinds, 3 _law_ties, 4 _law_number_here, 5 _law_names -/
def t__law_words (K : PySem.W.Frag) : TS := (tSeq (tAsg (tCall (sp__law_purse K) [] E0 (tCons (tVar 0) (tCons (tC (.int 0)) tNil))) (gName 1))
    (tSeq (tAsg (tCall (sp__law_next K) [] E0 (tCons (tVar 1) (tCons (tC (.int 5)) tNil))) (gName 2))
    (tSeq (tAsg (tCall (sp__law_next K) [] E0 (tCons (tVar 1) (tCons (tC (.int 5)) tNil))) (gName 3))
    (tSeq (tAsg (tCall (sp__law_next K) [] E0 (tCons (tVar 1) (tCons (tOp qPow (tC (.int 10)) (tC (.int 8))) tNil))) (gName 4))
    (tSeq (tAsg (tCall (sp__law_family K) [] E0 (tCons (tOp qFdv (tVar 4) (tC (.int 2))) (tCons (tOp qAdd (tVar 2) (tVar 3)) tNil))) (gName 5))
    (tSeq (tIfS (tTest (tOp rEq (tOp qMod (tVar 4) (tC (.int 2))) (tC (.int 1)))) (tAsg (tRevL K (tVar 5)) (gName 5)) tNext)
    (tSeq (tIfS (tTest (tOp rEq (tOp qMod (tCall (sp__law_cell K) [] E0 (tCons (tVar 0) (tCons (tC (.int 0)) tNil))) (tC (.int 2))) (tC (.int 1)))) (tAsg (tCall (sp__law_any_names K) [] E0 (tCons (tVar 0) (tCons (tVar 2) (tCons (tVar 3) tNil)))) (gName 5)) tNext)
    (tRet (tTup (tCons (tCB (rTupF K) (tCons (tCB (rSortedS K) (tCons (tSl (rSlL K) (tVar 5) tNoPart (tPart (tVar 2))) tNil)) tNil)) (tCons (tCB (rTupF K) (tCons (tCB (rSortedS K) (tCons (tSl (rSlL K) (tVar 5) (tPart (tVar 2)) tNoPart) tNil)) tNil)) tNil)))))))))))
/-- _law_size; slots: 0 _law_purse_here -/
def t__law_size (K : PySem.W.Frag) : TS := (tRet (tOp (rIxL K) (tLst (tCons (tC (.int 2)) (tCons (tC (.int 3)) (tCons (tC (.int 1)) (tCons (tC (.int 2)) (tCons (tC (.int 3)) (tCons (tC (.int 4)) (tCons (tC (.int 0)) (tCons (tC (.int 2)) (tCons (tC (.int 3)) (tCons (tC (.int 4)) tNil))))))))))) (tCall (sp__law_next K) [] E0 (tCons (tVar 0) (tCons (tC (.int 10)) tNil)))))
/-- _law_world; slots: 0 _law_words_here, 1 _law_size_here, 2 _law_purse_here, 3 _law_kinds, 4 _law_ties, 5 _law_name, 6 _law_tie -/
def t__law_world (K : PySem.W.Frag) : TS := (tSeq (tAsg (tLc (iTup K (tOp (rIxT K) (tVar 0) (tC (.int 0)))) (gName 5) tYes (tCall (sp__law_next K) [] E0 (tCons (tVar 2) (tCons (tOp qShl (tC (.int 1)) (tVar 1)) tNil))) [5]) (gName 3))
    (tSeq (tAsg (tLst tNil) (gName 4))
    (tSeq (tFor (iTup K (tOp (rIxT K) (tVar 0) (tC (.int 1)))) (gName 5) (tSeq (tAsg (tCall (sp__law_next K) [] E0 (tCons (tVar 2) (tCons (tOp qShl (tC (.int 1)) (tOp qMul (tVar 1) (tVar 1))) tNil))) (gName 6))
    (tSeq (tIfS (tTest (tOp rEq (tCall (sp__law_next K) [] E0 (tCons (tVar 2) (tCons (tC (.int 3)) tNil))) (tC (.int 1)))) (tAsg (tOp qAnd (tVar 6) (tCall (sp__law_next K) [] E0 (tCons (tVar 2) (tCons (tOp qShl (tC (.int 1)) (tOp qMul (tVar 1) (tVar 1))) tNil)))) (gName 6)) tNext)
    (tDrop (tBM K "list" rAppend (tVar 4) (tCons (tVar 6) tNil))))))
    (tRet (tTup (tCons (tVar 1) (tCons (tCB (rTupF K) (tCons (tVar 3) tNil)) (tCons (tCB (rTupF K) (tCons (tVar 4) tNil)) tNil))))))))
/-- _law_leaf; slots: 0 _law_purse_here, 1 _law_names, 2 _law_some, 3 _law_name -/
def t__law_leaf (K : PySem.W.Frag) : TS := (tSeq (tAsg (tOp rCat (tLc (iTup K (tVar 1)) (gName 3) tYes (tTup (tCons (tC (.str "name")) (tCons (tVar 3) tNil))) [3]) (tLst (tCons (tTup (tCons (tC (.str "same")) tNil)) (tCons (tTup (tCons (tC (.str "all")) tNil)) (tCons (tTup (tCons (tC (.str "none")) tNil)) tNil))))) (gName 2))
    (tRet (tOp (rIxL K) (tVar 2) (tCall (sp__law_next K) [] E0 (tCons (tVar 0) (tCons (tCB (qLen K) (tCons (tVar 2) tNil)) tNil))))))
/-- _law_expression; slots: 0 _law_purse_here, 1 _law_depth, 2 _law_names, 3 _law_style, 4 _law_one, 5 _law_other -/
def t__law_expression (K : PySem.W.Frag) (m : Nat) : TS := (tSeq (tAsg (tC (.int 0)) (gName 3))
    (tSeq (tIfS (tTest (tOp qGt (tVar 1) (tC (.int 0)))) (tAsg (tCall (sp__law_next K) [] E0 (tCons (tVar 0) (tCons (tC (.int 9)) tNil))) (gName 3)) tNext)
    (tSeq (tIfS (tTest (tOp rEq (tVar 3) (tC (.int 0)))) (tRet (tCall (sp__law_leaf K) [] E0 (tCons (tVar 0) (tCons (tVar 2) tNil)))) tNext)
    (tSeq (tAsg (tCall (sp__law_expression K m) [] E0 (tCons (tVar 0) (tCons (tOp qSub (tVar 1) (tC (.int 1))) (tCons (tVar 2) tNil)))) (gName 4))
    (tSeq (tIfS (tTest (tOp qLt (tVar 3) (tC (.int 3)))) (tRet (tTup (tCons (tOp (rIxL K) (tLst (tCons (tC (.str "turned")) (tCons (tC (.str "closed")) tNil))) (tOp qSub (tVar 3) (tC (.int 1)))) (tCons (tVar 4) tNil)))) tNext)
    (tSeq (tAsg (tCall (sp__law_expression K m) [] E0 (tCons (tVar 0) (tCons (tOp qSub (tVar 1) (tC (.int 1))) (tCons (tVar 2) tNil)))) (gName 5))
    (tRet (tTup (tCons (tOp (rIxL K) (tLst (tCons (tC (.str "plus")) (tCons (tC (.str "less")) (tCons (tC (.str "both")) (tCons (tC (.str "joined")) (tCons (tC (.str "less")) (tCons (tC (.str "joined")) tNil))))))) (tOp qSub (tVar 3) (tC (.int 3)))) (tCons (tVar 4) (tCons (tVar 5) tNil)))))))))))
/-- _law_fact; slots: 0 _law_purse_here, 1 _law_names, 2 _law_style, 3 _law_one, 4 _law_many -/
def t__law_fact (K : PySem.W.Frag) : TS := (tSeq (tAsg (tCall (sp__law_next K) [] E0 (tCons (tVar 0) (tCons (tC (.int 8)) tNil))) (gName 2))
    (tSeq (tAsg (tCall (sp__law_expression K 9) [] E0 (tCons (tVar 0) (tCons (tCall (sp__law_next K) [] E0 (tCons (tVar 0) (tCons (tC (.int 4)) tNil))) (tCons (tVar 1) tNil)))) (gName 3))
    (tSeq (tIfS (tTest (tOp qLt (tVar 2) (tC (.int 2)))) (tRet (tTup (tCons (tOp (rIxL K) (tLst (tCons (tC (.str "in")) (tCons (tC (.str "equal")) tNil))) (tVar 2)) (tCons (tVar 3) (tCons (tCall (sp__law_expression K 9) [] E0 (tCons (tVar 0) (tCons (tCall (sp__law_next K) [] E0 (tCons (tVar 0) (tCons (tC (.int 3)) tNil))) (tCons (tVar 1) tNil)))) tNil))))) tNext)
    (tSeq (tIfS (tTest (tOp qLt (tVar 2) (tC (.int 4)))) (tRet (tTup (tCons (tOp (rIxL K) (tLst (tCons (tC (.str "some")) (tCons (tC (.str "no")) tNil))) (tOp qSub (tVar 2) (tC (.int 2)))) (tCons (tVar 3) tNil)))) tNext)
    (tSeq (tAsg (tCall (sp__law_next K) [] E0 (tCons (tVar 0) (tCons (tOp (rIxL K) (tLst (tCons (tC (.int 5)) (tCons (tC (.int 18)) (tCons (tC (.int 100)) tNil)))) (tCall (sp__law_next K) [] E0 (tCons (tVar 0) (tCons (tC (.int 3)) tNil)))) tNil))) (gName 4))
    (tRet (tTup (tCons (tOp (rIxL K) (tLst (tCons (tC (.str "least")) (tCons (tC (.str "most")) (tCons (tC (.str "eachleast")) (tCons (tC (.str "eachmost")) tNil))))) (tOp qSub (tVar 2) (tC (.int 4)))) (tCons (tVar 4) (tCons (tVar 3) tNil))))))))))
/-- _law_saying; slots: 0 _law_purse_here, 1 _law_depth, 2 _law_names, 3 _law_style, 4 _law_one -/
def t__law_saying (K : PySem.W.Frag) (m : Nat) : TS := (tSeq (tAsg (tC (.int 0)) (gName 3))
    (tSeq (tIfS (tTest (tOp qGt (tVar 1) (tC (.int 0)))) (tAsg (tCall (sp__law_next K) [] E0 (tCons (tVar 0) (tCons (tC (.int 6)) tNil))) (gName 3)) tNext)
    (tSeq (tIfS (tTest (tOp qLt (tVar 3) (tC (.int 3)))) (tRet (tCall (sp__law_fact K) [] E0 (tCons (tVar 0) (tCons (tVar 2) tNil)))) tNext)
    (tSeq (tAsg (tCall (sp__law_saying K m) [] E0 (tCons (tVar 0) (tCons (tOp qSub (tVar 1) (tC (.int 1))) (tCons (tVar 2) tNil)))) (gName 4))
    (tSeq (tIfS (tTest (tOp rEq (tVar 3) (tC (.int 3)))) (tRet (tTup (tCons (tC (.str "not")) (tCons (tVar 4) tNil)))) tNext)
    (tRet (tTup (tCons (tOp (rIxL K) (tLst (tCons (tC (.str "and")) (tCons (tC (.str "or")) tNil))) (tOp qSub (tVar 3) (tC (.int 4)))) (tCons (tVar 4) (tCons (tCall (sp__law_saying K m) [] E0 (tCons (tVar 0) (tCons (tOp qSub (tVar 1) (tC (.int 1))) (tCons (tVar 2) tNil)))) tNil))))))))))
/-- _law_grid; slots: 0 _law_size_here, 1 _law_tie, 2 _law_a, 3 _law_b -/
def t__law_grid (K : PySem.W.Frag) : TS := (tRet (tLc (iRng1 (tCons (tVar 0) tNil)) (gName 2) tYes (tLc (iRng1 (tCons (tVar 0) tNil)) (gName 3) tYes (tOp qAnd (tOp qShr (tVar 1) (tOp qAdd (tOp qMul (tVar 2) (tVar 0)) (tVar 3))) (tC (.int 1))) [3]) [2]))
/-- _law_named; slots: 0 _law_words_here, 1 _law_world_here, 2 _law_name, 3 _law_size_here, 4 _law_kind, 5 _law_a, 6 _law_b -/
def t__law_named (K : PySem.W.Frag) : TS := (tSeq (tAsg (tOp (rIxT K) (tVar 1) (tC (.int 0))) (gName 3))
    (tSeq (tIfS (tTest (tOp (rIn K false) (tVar 2) (tOp (rIxT K) (tVar 0) (tC (.int 0))))) (tSeq (tAsg (tOp (rIxT K) (tOp (rIxT K) (tVar 1) (tC (.int 1))) (tTIx K (tOp (rIxT K) (tVar 0) (tC (.int 0))) (tCons (tVar 2) tNil))) (gName 4))
    (tRet (tLc (iRng1 (tCons (tVar 3) tNil)) (gName 5) tYes (tLc (iRng1 (tCons (tVar 3) tNil)) (gName 6) tYes (tOp qAnd (tOp qShr (tVar 4) (tVar 5)) (tCB rInt1 (tCons (tOp rEq (tVar 5) (tVar 6)) tNil))) [6]) [5]))) tNext)
    (tRet (tCall (sp__law_grid K) [] E0 (tCons (tVar 3) (tCons (tOp (rIxT K) (tOp (rIxT K) (tVar 1) (tC (.int 2))) (tTIx K (tOp (rIxT K) (tVar 0) (tC (.int 1))) (tCons (tVar 2) tNil))) tNil))))))
/-- _law_closed; slots: 0 _law_grid_here, 1 _law_answer, 2 _law_k, 3 _law_row, 4 _law_a, 5 _law_b -/
def t__law_closed (K : PySem.W.Frag) : TS := (tSeq (tAsg (tLc (iList K (tVar 0)) (gName 3) tYes (tCB (rListOf K) (tCons (tVar 3) tNil)) [3]) (gName 1))
    (tSeq (tFor (iRng1 (tCons (tCB (qLen K) (tCons (tVar 0) tNil)) tNil)) (gName 2) (tAsg (tLc (iRng1 (tCons (tCB (qLen K) (tCons (tVar 0) tNil)) tNil)) (gName 4) tYes (tLc (iRng1 (tCons (tCB (qLen K) (tCons (tVar 0) tNil)) tNil)) (gName 5) tYes (tOp qOr (tOp (rIxL K) (tOp (rIxL K) (tVar 1) (tVar 4)) (tVar 5)) (tOp qAnd (tOp (rIxL K) (tOp (rIxL K) (tVar 1) (tVar 4)) (tVar 2)) (tOp (rIxL K) (tOp (rIxL K) (tVar 1) (tVar 2)) (tVar 5)))) [5]) [4]) (gName 1)))
    (tRet (tVar 1))))
/-- _law_two; slots: 0 _law_word, 1 _law_one, 2 _law_other, 3 _law_many, 4 _law_a, 5 _law_b, 6 _law_k -/
def t__law_two (K : PySem.W.Frag) : TS := (tSeq (tAsg (tCB (qLen K) (tCons (tVar 1) tNil)) (gName 3))
    (tSeq (tIfS (tTest (tOp rEq (tVar 0) (tC (.str "joined")))) (tRet (tLc (iRng1 (tCons (tVar 3) tNil)) (gName 4) tYes (tLc (iRng1 (tCons (tVar 3) tNil)) (gName 5) tYes (tCB (rMax K) (tCons (tLc (iRng1 (tCons (tVar 3) tNil)) (gName 6) tYes (tOp qAnd (tOp (rIxL K) (tOp (rIxL K) (tVar 1) (tVar 4)) (tVar 6)) (tOp (rIxL K) (tOp (rIxL K) (tVar 2) (tVar 6)) (tVar 5))) [6]) tNil)) [5]) [4])) tNext)
    (tSeq (tIfS (tTest (tOp rEq (tVar 0) (tC (.str "plus")))) (tRet (tLc (iRng1 (tCons (tVar 3) tNil)) (gName 4) tYes (tLc (iRng1 (tCons (tVar 3) tNil)) (gName 5) tYes (tOp qOr (tOp (rIxL K) (tOp (rIxL K) (tVar 1) (tVar 4)) (tVar 5)) (tOp (rIxL K) (tOp (rIxL K) (tVar 2) (tVar 4)) (tVar 5))) [5]) [4])) tNext)
    (tSeq (tIfS (tTest (tOp rEq (tVar 0) (tC (.str "both")))) (tRet (tLc (iRng1 (tCons (tVar 3) tNil)) (gName 4) tYes (tLc (iRng1 (tCons (tVar 3) tNil)) (gName 5) tYes (tOp qAnd (tOp (rIxL K) (tOp (rIxL K) (tVar 1) (tVar 4)) (tVar 5)) (tOp (rIxL K) (tOp (rIxL K) (tVar 2) (tVar 4)) (tVar 5))) [5]) [4])) tNext)
    (tRet (tLc (iRng1 (tCons (tVar 3) tNil)) (gName 4) tYes (tLc (iRng1 (tCons (tVar 3) tNil)) (gName 5) tYes (tOp qAnd (tOp (rIxL K) (tOp (rIxL K) (tVar 1) (tVar 4)) (tVar 5)) (tOp qSub (tC (.int 1)) (tOp (rIxL K) (tOp (rIxL K) (tVar 2) (tVar 4)) (tVar 5)))) [5]) [4]))))))
/-- _law_value; slots: 0 _law_words_here, 1 _law_world_here, 2 _law_expression_here, 3 _law_size_here, 4 _law_word, 5 _law_one, 6 _law_a, 7 _law_b -/
def t__law_value (K : PySem.W.Frag) (m : Nat) : TS := (tSeq (tAsg (tOp (rIxT K) (tVar 1) (tC (.int 0))) (gName 3))
    (tSeq (tAsg (tOp (rIxT K) (tVar 2) (tC (.int 0))) (gName 4))
    (tSeq (tIfS (tTest (tOp rEq (tVar 4) (tC (.str "name")))) (tRet (tCall (sp__law_named K) [] E0 (tCons (tVar 0) (tCons (tVar 1) (tCons (tOp (rIxT K) (tVar 2) (tC (.int 1))) tNil))))) tNext)
    (tSeq (tIfS (tTest (tOp rEq (tCB (qLen K) (tCons (tVar 2) tNil)) (tC (.int 1)))) (tRet (tLc (iRng1 (tCons (tVar 3) tNil)) (gName 6) tYes (tLc (iRng1 (tCons (tVar 3) tNil)) (gName 7) tYes (tCB rInt1 (tCons (tOrV (tOp rEq (tVar 4) (tC (.str "all"))) (tAndV (tOp rEq (tVar 4) (tC (.str "same"))) (tOp rEq (tVar 6) (tVar 7)))) tNil)) [7]) [6])) tNext)
    (tSeq (tAsg (tCall (sp__law_value K m) [] E0 (tCons (tVar 0) (tCons (tVar 1) (tCons (tOp (rIxT K) (tVar 2) (tC (.int 1))) tNil)))) (gName 5))
    (tSeq (tIfS (tTest (tOp rEq (tVar 4) (tC (.str "turned")))) (tRet (tLc (iRng1 (tCons (tVar 3) tNil)) (gName 6) tYes (tLc (iRng1 (tCons (tVar 3) tNil)) (gName 7) tYes (tOp (rIxL K) (tOp (rIxL K) (tVar 5) (tVar 7)) (tVar 6)) [7]) [6])) tNext)
    (tSeq (tIfS (tTest (tOp rEq (tVar 4) (tC (.str "closed")))) (tRet (tCall (sp__law_closed K) [] E0 (tCons (tVar 5) tNil))) tNext)
    (tRet (tCall (sp__law_two K) [] E0 (tCons (tVar 4) (tCons (tVar 5) (tCons (tCall (sp__law_value K m) [] E0 (tCons (tVar 0) (tCons (tVar 1) (tCons (tOp (rIxT K) (tVar 2) (tC (.int 2))) tNil)))) tNil))))))))))))
/-- _law_counts; slots: 0 _law_grid_here, 1 _law_row -/
def t__law_counts (K : PySem.W.Frag) : TS := (tRet (tLc (iList K (tVar 0)) (gName 1) tYes (tCB (rSum K) (tCons (tVar 1) tNil)) [1]))
/-- _law_fact_kept; slots: 0 _law_words_here, 1 _law_world_here, 2 _law_saying_here, 3 _law_word, 4 _law_counts_here, 5 _law_one, 6 _law_other, 7 _law_many -/
def t__law_fact_kept (K : PySem.W.Frag) : TS := (tSeq (tAsg (tOp (rIxT K) (tVar 2) (tC (.int 0))) (gName 3))
    (tSeq (tIfS (tTest (tOp (rIn K false) (tVar 3) (tTup (tCons (tC (.str "in")) (tCons (tC (.str "equal")) tNil))))) (tSeq (tAsg (tCall (sp__law_value K 9) [] E0 (tCons (tVar 0) (tCons (tVar 1) (tCons (tOp (rIxT K) (tVar 2) (tC (.int 1))) tNil)))) (gName 5))
    (tSeq (tAsg (tCall (sp__law_value K 9) [] E0 (tCons (tVar 0) (tCons (tVar 1) (tCons (tOp (rIxT K) (tVar 2) (tC (.int 2))) tNil)))) (gName 6))
    (tSeq (tIfS (tTest (tOp rEq (tVar 3) (tC (.str "equal")))) (tRet (tOp (rEqD K) (tVar 5) (tVar 6))) tNext)
    (tRet (tOp (rEqD K) (tCall (sp__law_two K) [] E0 (tCons (tC (.str "both")) (tCons (tVar 5) (tCons (tVar 6) tNil)))) (tVar 5)))))) tNext)
    (tSeq (tAsg (tCall (sp__law_counts K) [] E0 (tCons (tCall (sp__law_value K 9) [] E0 (tCons (tVar 0) (tCons (tVar 1) (tCons (tOp (rIxT K) (tVar 2) (tUn qNeg (tC (.int 1)))) tNil)))) tNil)) (gName 4))
    (tSeq (tIfS (tTest (tOp (rIn K false) (tVar 3) (tTup (tCons (tC (.str "some")) (tCons (tC (.str "no")) tNil))))) (tRet (tOp rEq (tOp qGt (tCB (rSum K) (tCons (tVar 4) tNil)) (tC (.int 0))) (tOp rEq (tVar 3) (tC (.str "some"))))) tNext)
    (tSeq (tIfS (tTest (tOp (rIn K false) (tVar 3) (tTup (tCons (tC (.str "least")) (tCons (tC (.str "most")) tNil))))) (tAsg (tLst (tCons (tCB (rSum K) (tCons (tVar 4) tNil)) tNil)) (gName 4)) tNext)
    (tSeq (tIfS (tTest (tOp (rIn K false) (tVar 3) (tTup (tCons (tC (.str "least")) (tCons (tC (.str "eachleast")) tNil))))) (tRet (tCB (rAll K) (tCons (tLc (iList K (tVar 4)) (gName 7) tYes (tOp qGe (tVar 7) (tOp (rIxT K) (tVar 2) (tC (.int 1)))) [7]) tNil))) tNext)
    (tRet (tCB (rAll K) (tCons (tLc (iList K (tVar 4)) (gName 7) tYes (tOp qLe (tVar 7) (tOp (rIxT K) (tVar 2) (tC (.int 1)))) [7]) tNil)))))))))
/-- _law_kept; slots: 0 _law_words_here, 1 _law_world_here, 2 _law_saying_here -/
def t__law_kept (K : PySem.W.Frag) (m : Nat) : TS := (tSeq (tIfS (tTest (tOp rEq (tOp (rIxT K) (tVar 2) (tC (.int 0))) (tC (.str "not")))) (tRet (tNotV (tCall (sp__law_kept K m) [] E0 (tCons (tVar 0) (tCons (tVar 1) (tCons (tOp (rIxT K) (tVar 2) (tC (.int 1))) tNil)))))) tNext)
    (tSeq (tIfS (tTest (tOp rEq (tOp (rIxT K) (tVar 2) (tC (.int 0))) (tC (.str "and")))) (tRet (tAndV (tCall (sp__law_kept K m) [] E0 (tCons (tVar 0) (tCons (tVar 1) (tCons (tOp (rIxT K) (tVar 2) (tC (.int 1))) tNil)))) (tCall (sp__law_kept K m) [] E0 (tCons (tVar 0) (tCons (tVar 1) (tCons (tOp (rIxT K) (tVar 2) (tC (.int 2))) tNil)))))) tNext)
    (tSeq (tIfS (tTest (tOp rEq (tOp (rIxT K) (tVar 2) (tC (.int 0))) (tC (.str "or")))) (tRet (tOrV (tCall (sp__law_kept K m) [] E0 (tCons (tVar 0) (tCons (tVar 1) (tCons (tOp (rIxT K) (tVar 2) (tC (.int 1))) tNil)))) (tCall (sp__law_kept K m) [] E0 (tCons (tVar 0) (tCons (tVar 1) (tCons (tOp (rIxT K) (tVar 2) (tC (.int 2))) tNil)))))) tNext)
    (tRet (tCall (sp__law_fact_kept K) [] E0 (tCons (tVar 0) (tCons (tVar 1) (tCons (tVar 2) tNil))))))))
/-- _law_spots; slots: 0 _law_words_here, 1 _law_size_here, 2 _law_spots_here, 3 _law_k, 4 _law_a -/
def t__law_spots (K : PySem.W.Frag) : TS := (tSeq (tAsg (tLst tNil) (gName 2))
    (tSeq (tFor (iRng1 (tCons (tCB (qLen K) (tCons (tOp (rIxT K) (tVar 0) (tC (.int 0))) tNil)) tNil)) (gName 3) (tAsg (tOp rCat (tVar 2) (tLc (iRng1 (tCons (tVar 1) tNil)) (gName 4) tYes (tTup (tCons (tC (.int 1)) (tCons (tVar 3) (tCons (tOp qShl (tC (.int 1)) (tVar 4)) tNil)))) [4])) (gName 2)))
    (tSeq (tFor (iRng1 (tCons (tCB (qLen K) (tCons (tOp (rIxT K) (tVar 0) (tC (.int 1))) tNil)) tNil)) (gName 3) (tAsg (tOp rCat (tVar 2) (tLc (iRng1 (tCons (tOp qMul (tVar 1) (tVar 1)) tNil)) (gName 4) tYes (tTup (tCons (tC (.int 2)) (tCons (tVar 3) (tCons (tOp qShl (tC (.int 1)) (tVar 4)) tNil)))) [4])) (gName 2)))
    (tRet (tVar 2)))))
/-- _law_bit_put; slots: 0 _law_world_here, 1 _law_spot, 2 _law_truth, 3 _law_sort, 4 _law_k, 5 _law_bit, 6 _law_row -/
def t__law_bit_put (K : PySem.W.Frag) : TS := (tSeq (tAsg (tVar 1) (gTup K 3 (gCons (gName 3) (gCons (gName 4) (gCons (gName 5) gNil)))))
    (tSeq (tAsg (tCB (rListOf K) (tCons (tOp (rIxT K) (tVar 0) (tVar 3)) tNil)) (gName 6))
    (tSeq (tAsg (tOp qSub (tOp qOr (tOp (rIxL K) (tVar 6) (tVar 4)) (tVar 5)) (tOp (rIxL K) (tLst (tCons (tVar 5) (tCons (tC (.int 0)) tNil))) (tCB rInt1 (tCons (tVar 2) tNil)))) (gSub (tVar 6) (tVar 4) rSetL))
    (tSeq (tIfS (tTest (tOp rEq (tVar 3) (tC (.int 1)))) (tRet (tTup (tCons (tOp (rIxT K) (tVar 0) (tC (.int 0))) (tCons (tCB (rTupF K) (tCons (tVar 6) tNil)) (tCons (tOp (rIxT K) (tVar 0) (tC (.int 2))) tNil))))) tNext)
    (tRet (tTup (tCons (tOp (rIxT K) (tVar 0) (tC (.int 0))) (tCons (tOp (rIxT K) (tVar 0) (tC (.int 1))) (tCons (tCB (rTupF K) (tCons (tVar 6) tNil)) tNil)))))))))
/-- _law_picked; slots: 0 _law_spots_here, 1 _law_purse_here, 2 _law_many, 3 _law_some, 4 _law_k, 5 _law_spot -/
def t__law_picked (K : PySem.W.Frag) : TS := (tSeq (tAsg (tLst tNil) (gName 3))
    (tSeq (tFor (iRng1 (tCons (tVar 2) tNil)) (gName 4) (tIfS (tTest (tOp qGt (tCB (qLen K) (tCons (tVar 0) tNil)) (tC (.int 0)))) (tSeq (tAsg (tOp (rIxL K) (tVar 0) (tCall (sp__law_next K) [] E0 (tCons (tVar 1) (tCons (tCB (qLen K) (tCons (tVar 0) tNil)) tNil)))) (gName 5))
    (tIfS (tTest (tOp (rNotInD K) (tVar 5) (tVar 3))) (tDrop (tBM K "list" rAppend (tVar 3) (tCons (tVar 5) tNil))) tNext)) tNext))
    (tRet (tVar 3))))
/-- _law_between; slots: 0 _law_world_here, 1 _law_some, 2 _law_worlds, 3 _law_spot, 4 _law_lower, 5 _law_one -/
def t__law_between (K : PySem.W.Frag) : TS := (tSeq (tAsg (tLst (tCons (tVar 0) tNil)) (gName 2))
    (tSeq (tFor (iList K (tVar 1)) (gName 3) (tSeq (tAsg (tLc (iList K (tVar 2)) (gName 5) tYes (tCall (sp__law_bit_put K) [] E0 (tCons (tVar 5) (tCons (tVar 3) (tCons (tC (.bl false)) tNil)))) [5]) (gName 4))
    (tAsg (tOp rCat (tVar 4) (tLc (iList K (tVar 2)) (gName 5) tYes (tCall (sp__law_bit_put K) [] E0 (tCons (tVar 5) (tCons (tVar 3) (tCons (tC (.bl true)) tNil)))) [5])) (gName 2))))
    (tRet (tVar 2))))
/-- _law_number; slots: 0 _law_grid_here, 1 _law_size_here, 2 _law_k -/
def t__law_number (K : PySem.W.Frag) : TS := (tSeq (tAsg (tCB (qLen K) (tCons (tVar 0) tNil)) (gName 1))
    (tRet (tCB (rSum K) (tCons (tLc (iRng1 (tCons (tOp qMul (tVar 1) (tVar 1)) tNil)) (gName 2) tYes (tOp qShl (tOp (rIxL K) (tOp (rIxL K) (tVar 0) (tOp qFdv (tVar 2) (tVar 1))) (tOp qMod (tVar 2) (tVar 1))) (tVar 2)) [2]) tNil))))
/-- _law_so; slots: 0 _law_words_here, 1 _law_part, 2 _law_worlds, 3 _law_saying_here, 4 _law_expression_here, 5 _law_answer, 6 _law_must, 7 _law_may, 8 _law_world_here, 9 _law_keeping, 10 _law_tie -/
def t__law_so (K : PySem.W.Frag) : TS := (tSeq (tAsg (tCall (sp_told K 9) [] E0 (tCons (tVar 0) (tCons (tVar 1) (tCons (tVar 3) tNil)))) (gName 5))
    (tSeq (tAsg (tCall (sp_bounds K 9) [] E0 (tCons (tVar 0) (tCons (tVar 1) (tCons (tVar 4) tNil)))) (gTup K 2 (gCons (gName 6) (gCons (gName 7) gNil))))
    (tSeq (tFor (iList K (tVar 2)) (gName 8) (tSeq (tAsg (tCall (sp__law_kept K 9) [] E0 (tCons (tVar 0) (tCons (tVar 8) (tCons (tVar 3) tNil)))) (gName 9))
    (tSeq (tIfS (tAnd (tTest (tOp rNotN (tVar 5) (tC .non))) (tTest (tOp rNe (tVar 5) (tVar 9)))) (tRet (tC (.bl false))) tNext)
    (tSeq (tIfS (tTest (tOp rNe (tCall (sp_told K 9) [] E0 (tCons (tVar 0) (tCons (tTup (tCons (tVar 8) (tCons (tVar 8) tNil))) (tCons (tVar 3) tNil)))) (tVar 9))) (tRet (tC (.bl false))) tNext)
    (tSeq (tAsg (tCall (sp__law_number K) [] E0 (tCons (tCall (sp__law_value K 9) [] E0 (tCons (tVar 0) (tCons (tVar 8) (tCons (tVar 4) tNil)))) tNil)) (gName 10))
    (tSeq (tIfS (tOr (tTest (tOp rNe (tOp qAnd (tVar 6) (tVar 10)) (tVar 6))) (tTest (tOp rNe (tOp qAnd (tVar 10) (tVar 7)) (tVar 10)))) (tRet (tC (.bl false))) tNext)
    (tIfS (tTest (tOp (rNeD K) (tCall (sp_bounds K 9) [] E0 (tCons (tVar 0) (tCons (tTup (tCons (tVar 8) (tCons (tVar 8) tNil))) (tCons (tVar 4) tNil)))) (tTup (tCons (tVar 10) (tCons (tVar 10) tNil))))) (tRet (tC (.bl false))) tNext)))))))
    (tRet (tC (.bl true))))))
/-- _law_light; slots: 0 _law_purse_here, 1 _law_names, 2 _law_one, 3 _law_leaf_here, 4 _law_many, 5 _law_some -/
def t__law_light (K : PySem.W.Frag) : TS := (tSeq (tAsg (tCall (sp__law_leaf K) [] E0 (tCons (tVar 0) (tCons (tVar 1) tNil))) (gName 3))
    (tSeq (tAsg (tCall (sp__law_next K) [] E0 (tCons (tVar 0) (tCons (tC (.int 5)) tNil))) (gName 4))
    (tSeq (tAsg (tLst (tCons (tTup (tCons (tC (.str "in")) (tCons (tVar 2) (tCons (tVar 3) tNil)))) (tCons (tTup (tCons (tC (.str "in")) (tCons (tVar 3) (tCons (tVar 2) tNil)))) (tCons (tTup (tCons (tC (.str "some")) (tCons (tVar 2) tNil))) (tCons (tTup (tCons (tC (.str "no")) (tCons (tVar 2) tNil))) (tCons (tTup (tCons (tC (.str "least")) (tCons (tVar 4) (tCons (tVar 2) tNil)))) (tCons (tTup (tCons (tC (.str "most")) (tCons (tVar 4) (tCons (tVar 2) tNil)))) tNil))))))) (gName 5))
    (tSeq (tAsg (tOp rCat (tVar 5) (tLst (tCons (tTup (tCons (tC (.str "eachleast")) (tCons (tVar 4) (tCons (tVar 2) tNil)))) (tCons (tTup (tCons (tC (.str "eachmost")) (tCons (tVar 4) (tCons (tVar 2) tNil)))) (tCons (tTup (tCons (tC (.str "equal")) (tCons (tVar 2) (tCons (tVar 3) tNil)))) (tCons (tTup (tCons (tC (.str "not")) (tCons (tTup (tCons (tC (.str "in")) (tCons (tVar 2) (tCons (tVar 3) tNil)))) tNil))) tNil)))))) (gName 5))
    (tRet (tOp (rIxL K) (tVar 5) (tCall (sp__law_next K) [] E0 (tCons (tVar 0) (tCons (tC (.int 10)) tNil)))))))))
/-- law; slots: 0 _law_script, 1 _law_words_here, 2 _law_names, 3 _law_purse_here, 4 _law_size_here, 5 _law_world_here, 6 _law_spots_here, 7 _law_k, 8 _law_some, 9 _law_expression_here, 10 _law_worlds, 11 _law_saying_here -/
def t_law (K : PySem.W.Frag) : TS := (tSeq (tAsg (tCall (sp__law_words K) [] E0 (tCons (tVar 0) tNil)) (gName 1))
    (tSeq (tAsg (tOp (rCatA K) (tOp (rIxT K) (tVar 1) (tC (.int 0))) (tOp (rIxT K) (tVar 1) (tC (.int 1)))) (gName 2))
    (tSeq (tAsg (tCall (sp__law_purse K) [] E0 (tCons (tVar 0) (tCons (tC (.int 3)) tNil))) (gName 3))
    (tSeq (tAsg (tCall (sp__law_size K) [] E0 (tCons (tVar 3) tNil)) (gName 4))
    (tSeq (tAsg (tCall (sp__law_world K) [] E0 (tCons (tVar 1) (tCons (tVar 4) (tCons (tVar 3) tNil)))) (gName 5))
    (tSeq (tAsg (tCall (sp__law_spots K) [] E0 (tCons (tVar 1) (tCons (tVar 4) tNil))) (gName 6))
    (tSeq (tFor (iRng2 (tCons (tC (.int 4)) (tCons (tCB rMx2 (tCons (tC (.int 5)) (tCons (tCB rMn2 (tCons (tC (.int 63)) (tCons (tCB (qLen K) (tCons (tVar 0) tNil)) tNil))) tNil))) tNil))) (gName 7) (tSeq (tAsg (tCall (sp__law_purse K) [] E0 (tCons (tVar 0) (tCons (tVar 7) tNil))) (gName 3))
    (tSeq (tAsg (tCall (sp__law_picked K) [] E0 (tCons (tVar 6) (tCons (tVar 3) (tCons (tCall (sp__law_next K) [] E0 (tCons (tVar 3) (tCons (tOp (rIxL K) (tLst (tCons (tC (.int 4)) (tCons (tC (.int 2)) tNil))) (tCB rInt1 (tCons (tOp qGt (tVar 7) (tC (.int 6))) tNil))) tNil))) tNil)))) (gName 8))
    (tSeq (tAsg (tCall (sp__law_expression K 9) [] E0 (tCons (tVar 3) (tCons (tCall (sp__law_next K) [] E0 (tCons (tVar 3) (tCons (tOp (rIxL K) (tLst (tCons (tC (.int 4)) (tCons (tC (.int 3)) tNil))) (tCB rInt1 (tCons (tOp qGt (tVar 7) (tC (.int 6))) tNil))) tNil))) (tCons (tVar 2) tNil)))) (gName 9))
    (tSeq (tIfS (tTest (tOp qGt (tVar 7) (tC (.int 6)))) (tAsg (tCall (sp__law_light K) [] E0 (tCons (tVar 3) (tCons (tVar 2) (tCons (tVar 9) tNil)))) (gName 11)) (tAsg (tCall (sp__law_saying K 9) [] E0 (tCons (tVar 3) (tCons (tCall (sp__law_next K) [] E0 (tCons (tVar 3) (tCons (tC (.int 3)) tNil))) (tCons (tVar 2) tNil)))) (gName 11)))
    (tSeq (tAsg (tCall (sp__law_between K) [] E0 (tCons (tVar 5) (tCons (tVar 8) tNil))) (gName 10))
    (tIfS (tNot (tB (tCall (sp__law_so K) [] E0 (tCons (tVar 1) (tCons (tTup (tCons (tOp (rIxL K) (tVar 10) (tC (.int 0))) (tCons (tOp (rIxL K) (tVar 10) (tUn qNeg (tC (.int 1)))) tNil))) (tCons (tVar 10) (tCons (tVar 11) (tCons (tVar 9) tNil)))))))) (tRet (tC (.bl false))) tNext)))))))
    (tRet (tC (.bl true))))))))))
end
end Wf


set_option maxHeartbeats 4000000

/-! The derivations: printed by gen.py. -/
namespace Wf
open PySem PySem.Spec PyProof.Rows L2
def topS (i : Nat) : Stmt := PySem.Challenge.pw_worldfind_k23_whole_what_is_told_is_so.main.body.getD i (.Pass ⟨0, 0, 0, 0⟩)
theorem u65 {k : Nat} {A : Around} (r : Room k A) : A.units + 65 < cLine := by have := r.un; omega
section
variable {P : Program} {w : World} {K : PySem.W.Frag} {mg : Str → Option Value} {base : Heap}
abbrev s_is_within : Stmt := topS 4
abbrev n_is_within : List Str := ["size", "thing"]
theorem sc_is_within : FnScope n_is_within ["size", "thing"] (defScope s_is_within) := ⟨rfl, rfl, rfl, by decide +kernel, rfl, by decide +kernel, by decide +kernel⟩
theorem p_is_within {k : Nat} (Z_isinstance : mg "isinstance" = none) (Z_int : mg "int" = none) (Z_bool : mg "bool" = none) (f : Addr) (cdv : Value) (Ar : Around) (outer : List PySem.Env) (s : Shared) (H : Hp) (E : XK) (hr : Room k (Ar.deeper (envOfC "is_within" (defScope s_is_within) s.heap.objs.size f cdv))) :
    PSs (cxOf CX0 P w K mg base n_is_within "is_within" (defScope s_is_within) f cdv Ar outer s H E).nox (defBody s_is_within) (t_is_within K) :=
  (pss_one (ps_ret (pe_and (pe_isi (by rfl) Z_isinstance (by rfl) Z_int (by decide +kernel) (pv 1)) (pe_and (pe_not (pe_isi (by rfl) Z_isinstance (by rfl) Z_bool (by decide +kernel) (pv 1))) (pe_one (pe_chain op_le op_lt pe_int (pv 1) (pv 0)))))))
abbrev s_row_of : Stmt := topS 5
abbrev n_row_of : List Str := ["size", "tie", "a"]
theorem sc_row_of : FnScope n_row_of ["size", "tie", "a"] (defScope s_row_of) := ⟨rfl, rfl, rfl, by decide +kernel, rfl, by decide +kernel, by decide +kernel⟩
theorem p_row_of {k : Nat} (f : Addr) (cdv : Value) (Ar : Around) (outer : List PySem.Env) (s : Shared) (H : Hp) (E : XK) (hr : Room k (Ar.deeper (envOfC "row_of" (defScope s_row_of) s.heap.objs.size f cdv))) :
    PSs (cxOf CX0 P w K mg base n_row_of "row_of" (defScope s_row_of) f cdv Ar outer s H E).nox (defBody s_row_of) (t_row_of K) :=
  (pss_one (ps_ret (pe_op op_and (pe_op op_shr (pv 1) (pe_op op_mul (pv 2) (pv 0))) (pe_op op_sub (pe_op op_shl pe_int (pv 0)) pe_int))))
abbrev s_pairs_of : Stmt := topS 6
abbrev n_pairs_of : List Str := ["size", "tie", "found", "a", "b"]
theorem sc_pairs_of : FnScope n_pairs_of ["size", "tie"] (defScope s_pairs_of) := ⟨rfl, rfl, rfl, by decide +kernel, rfl, by decide +kernel, by decide +kernel⟩
theorem p_pairs_of {k : Nat} (Z_range : mg "range" = none) (f : Addr) (cdv : Value) (Ar : Around) (outer : List PySem.Env) (s : Shared) (H : Hp) (E : XK) (hr : Room k (Ar.deeper (envOfC "pairs_of" (defScope s_pairs_of) s.heap.objs.size f cdv))) :
    PSs (cxOf CX0 P w K mg base n_pairs_of "pairs_of" (defScope s_pairs_of) f cdv Ar outer s H E).nox (defBody s_pairs_of) (t_pairs_of K) :=
  (pss_cons (ps_set (i := 2) sc_pairs_of.nd rfl (by first | exact Or.inl rfl | exact Or.inr rfl) (pe_lst pa_nil))
    (pss_cons (ps_for PassesOwn.never rfl (pi_range1 (by rfl) Z_range (pa_cons (pv 0) pa_nil)) (pg_name (i := 3) sc_pairs_of.nd rfl (by first | exact Or.inl rfl | exact Or.inr rfl)) (pss_one (ps_for PassesOwn.never rfl (pi_range1 (by rfl) Z_range (pa_cons (pv 0) pa_nil)) (pg_name (i := 4) sc_pairs_of.nd rfl (by first | exact Or.inl rfl | exact Or.inr rfl)) (pss_one (ps_if (pt_cmpR op_eq (pe_op op_and (pe_op op_shr (pv 1) (pe_op op_add (pe_op op_mul (pv 3) (pv 0)) (pv 4))) pe_int) pe_int (nomark _)) (pss_one (ps_expr (pe_bm PySem.F.plainAttrs_list PySem.F.slot_list_append PySem.F.type_list_append mt_append (pv 2) (pa_cons (pe_tup (pa_cons (pv 3) (pa_cons (pv 4) pa_nil))) pa_nil)))) pss_nil)))))
    (pss_one (ps_ret (pv 2)))))
abbrev s_tie_of : Stmt := topS 7
abbrev n_tie_of : List Str := ["size", "pairs", "found", "a", "b"]
theorem sc_tie_of : FnScope n_tie_of ["size", "pairs"] (defScope s_tie_of) := ⟨rfl, rfl, rfl, by decide +kernel, rfl, by decide +kernel, by decide +kernel⟩
theorem p_tie_of {k : Nat} (c_is_within : Good P w K mg base "is_within" ["size", "thing"] k (sp_is_within K)) (f : Addr) (cdv : Value) (Ar : Around) (outer : List PySem.Env) (s : Shared) (H : Hp) (E : XK) (hr : Room k (Ar.deeper (envOfC "tie_of" (defScope s_tie_of) s.heap.objs.size f cdv))) :
    PSs (cxOf CX0 P w K mg base n_tie_of "tie_of" (defScope s_tie_of) f cdv Ar outer s H E).nox (defBody s_tie_of) (t_tie_of K) :=
  (pss_cons (ps_set (i := 2) sc_tie_of.nd rfl (by first | exact Or.inl rfl | exact Or.inr rfl) pe_int)
    (pss_cons (ps_for PassesOwn.never rfl (pi_list (pv 1)) (pg_tup rfl (pgs_cons (pg_name (i := 3) sc_tie_of.nd rfl (by first | exact Or.inl rfl | exact Or.inr rfl)) (pgs_cons (pg_name (i := 4) sc_tie_of.nd rfl (by first | exact Or.inl rfl | exact Or.inr rfl)) pgs_nil))) (pss_cons (ps_if (PW.pt (pw_or (pt_not (pt_val (pe_cg c_is_within hr (pa_cons (pv 0) (pa_cons (pv 3) pa_nil))))) (pw_or1 (pt_not (pt_val (pe_cg c_is_within hr (pa_cons (pv 0) (pa_cons (pv 4) pa_nil)))))))) (pss_one ps_never) pss_nil)
    (pss_one (ps_set (i := 2) sc_tie_of.nd rfl (by first | exact Or.inl rfl | exact Or.inr rfl) (pe_op op_or (pv 2) (pe_op op_shl pe_int (pe_op op_add (pe_op op_mul (pv 3) (pv 0)) (pv 4))))))))
    (pss_one (ps_ret (pv 2)))))
abbrev s_common : Stmt := topS 8
abbrev n_common : List Str := ["one", "other"]
theorem sc_common : FnScope n_common ["one", "other"] (defScope s_common) := ⟨rfl, rfl, rfl, by decide +kernel, rfl, by decide +kernel, by decide +kernel⟩
theorem p_common {k : Nat} (f : Addr) (cdv : Value) (Ar : Around) (outer : List PySem.Env) (s : Shared) (H : Hp) (E : XK) (hr : Room k (Ar.deeper (envOfC "common" (defScope s_common) s.heap.objs.size f cdv))) :
    PSs (cxOf CX0 P w K mg base n_common "common" (defScope s_common) f cdv Ar outer s H E).nox (defBody s_common) (t_common K) :=
  (pss_one (ps_ret (pe_op op_and (pv 0) (pv 1))))
abbrev s_either : Stmt := topS 9
abbrev n_either : List Str := ["one", "other"]
theorem sc_either : FnScope n_either ["one", "other"] (defScope s_either) := ⟨rfl, rfl, rfl, by decide +kernel, rfl, by decide +kernel, by decide +kernel⟩
theorem p_either {k : Nat} (f : Addr) (cdv : Value) (Ar : Around) (outer : List PySem.Env) (s : Shared) (H : Hp) (E : XK) (hr : Room k (Ar.deeper (envOfC "either" (defScope s_either) s.heap.objs.size f cdv))) :
    PSs (cxOf CX0 P w K mg base n_either "either" (defScope s_either) f cdv Ar outer s H E).nox (defBody s_either) (t_either K) :=
  (pss_one (ps_ret (pe_op op_or (pv 0) (pv 1))))
abbrev s_without : Stmt := topS 10
abbrev n_without : List Str := ["one", "other"]
theorem sc_without : FnScope n_without ["one", "other"] (defScope s_without) := ⟨rfl, rfl, rfl, by decide +kernel, rfl, by decide +kernel, by decide +kernel⟩
theorem p_without {k : Nat} (f : Addr) (cdv : Value) (Ar : Around) (outer : List PySem.Env) (s : Shared) (H : Hp) (E : XK) (hr : Room k (Ar.deeper (envOfC "without" (defScope s_without) s.heap.objs.size f cdv))) :
    PSs (cxOf CX0 P w K mg base n_without "without" (defScope s_without) f cdv Ar outer s H E).nox (defBody s_without) (t_without K) :=
  (pss_one (ps_ret (pe_op op_xor (pv 0) (pe_op op_and (pv 0) (pv 1)))))
abbrev s_turned : Stmt := topS 11
abbrev n_turned : List Str := ["size", "tie", "found", "a", "b"]
theorem sc_turned : FnScope n_turned ["size", "tie"] (defScope s_turned) := ⟨rfl, rfl, rfl, by decide +kernel, rfl, by decide +kernel, by decide +kernel⟩
theorem p_turned {k : Nat} (c_pairs_of : Good P w K mg base "pairs_of" ["size", "tie"] k (sp_pairs_of K)) (f : Addr) (cdv : Value) (Ar : Around) (outer : List PySem.Env) (s : Shared) (H : Hp) (E : XK) (hr : Room k (Ar.deeper (envOfC "turned" (defScope s_turned) s.heap.objs.size f cdv))) :
    PSs (cxOf CX0 P w K mg base n_turned "turned" (defScope s_turned) f cdv Ar outer s H E).nox (defBody s_turned) (t_turned K) :=
  (pss_cons (ps_set (i := 2) sc_turned.nd rfl (by first | exact Or.inl rfl | exact Or.inr rfl) pe_int)
    (pss_cons (ps_for PassesOwn.never rfl (pi_list (pe_cg c_pairs_of hr (pa_cons (pv 0) (pa_cons (pv 1) pa_nil)))) (pg_tup rfl (pgs_cons (pg_name (i := 3) sc_turned.nd rfl (by first | exact Or.inl rfl | exact Or.inr rfl)) (pgs_cons (pg_name (i := 4) sc_turned.nd rfl (by first | exact Or.inl rfl | exact Or.inr rfl)) pgs_nil))) (pss_one (ps_set (i := 2) sc_turned.nd rfl (by first | exact Or.inl rfl | exact Or.inr rfl) (pe_op op_or (pv 2) (pe_op op_shl pe_int (pe_op op_add (pe_op op_mul (pv 4) (pv 0)) (pv 3)))))))
    (pss_one (ps_ret (pv 2)))))
abbrev s_joined : Stmt := topS 12
abbrev n_joined : List Str := ["size", "one", "other", "found", "a", "b"]
theorem sc_joined : FnScope n_joined ["size", "one", "other"] (defScope s_joined) := ⟨rfl, rfl, rfl, by decide +kernel, rfl, by decide +kernel, by decide +kernel⟩
theorem p_joined {k : Nat} (c_pairs_of : Good P w K mg base "pairs_of" ["size", "tie"] k (sp_pairs_of K)) (c_row_of : Good P w K mg base "row_of" ["size", "tie", "a"] k (sp_row_of K)) (f : Addr) (cdv : Value) (Ar : Around) (outer : List PySem.Env) (s : Shared) (H : Hp) (E : XK) (hr : Room k (Ar.deeper (envOfC "joined" (defScope s_joined) s.heap.objs.size f cdv))) :
    PSs (cxOf CX0 P w K mg base n_joined "joined" (defScope s_joined) f cdv Ar outer s H E).nox (defBody s_joined) (t_joined K) :=
  (pss_cons (ps_set (i := 3) sc_joined.nd rfl (by first | exact Or.inl rfl | exact Or.inr rfl) pe_int)
    (pss_cons (ps_for PassesOwn.never rfl (pi_list (pe_cg c_pairs_of hr (pa_cons (pv 0) (pa_cons (pv 1) pa_nil)))) (pg_tup rfl (pgs_cons (pg_name (i := 4) sc_joined.nd rfl (by first | exact Or.inl rfl | exact Or.inr rfl)) (pgs_cons (pg_name (i := 5) sc_joined.nd rfl (by first | exact Or.inl rfl | exact Or.inr rfl)) pgs_nil))) (pss_one (ps_set (i := 3) sc_joined.nd rfl (by first | exact Or.inl rfl | exact Or.inr rfl) (pe_op op_or (pv 3) (pe_op op_shl (pe_cg c_row_of hr (pa_cons (pv 0) (pa_cons (pv 2) (pa_cons (pv 5) pa_nil)))) (pe_op op_mul (pv 4) (pv 0)))))))
    (pss_one (ps_ret (pv 3)))))
abbrev s_closed : Stmt := topS 13
abbrev n_closed : List Str := ["size", "tie", "found", "step"]
theorem sc_closed : FnScope n_closed ["size", "tie"] (defScope s_closed) := ⟨rfl, rfl, rfl, by decide +kernel, rfl, by decide +kernel, by decide +kernel⟩
theorem p_closed {k : Nat} (Z_range : mg "range" = none) (c_joined : Good P w K mg base "joined" ["size", "one", "other"] k (sp_joined K)) (f : Addr) (cdv : Value) (Ar : Around) (outer : List PySem.Env) (s : Shared) (H : Hp) (E : XK) (hr : Room k (Ar.deeper (envOfC "closed" (defScope s_closed) s.heap.objs.size f cdv))) :
    PSs (cxOf CX0 P w K mg base n_closed "closed" (defScope s_closed) f cdv Ar outer s H E).nox (defBody s_closed) (t_closed K) :=
  (pss_cons (ps_set (i := 2) sc_closed.nd rfl (by first | exact Or.inl rfl | exact Or.inr rfl) (pv 1))
    (pss_cons (ps_for PassesOwn.never rfl (pi_range1 (by rfl) Z_range (pa_cons (pv 0) pa_nil)) (pg_name (i := 3) sc_closed.nd rfl (by first | exact Or.inl rfl | exact Or.inr rfl)) (pss_one (ps_set (i := 2) sc_closed.nd rfl (by first | exact Or.inl rfl | exact Or.inr rfl) (pe_op op_or (pv 2) (pe_cg c_joined hr (pa_cons (pv 0) (pa_cons (pv 2) (pa_cons (pv 1) pa_nil))))))))
    (pss_one (ps_ret (pv 2)))))
abbrev s_same : Stmt := topS 14
abbrev n_same : List Str := ["size", "a"]
theorem sc_same : FnScope n_same ["size"] (defScope s_same) := ⟨rfl, rfl, rfl, by decide +kernel, rfl, by decide +kernel, by decide +kernel⟩
theorem p_same {k : Nat} (Z_range : mg "range" = none) (c_tie_of : Good P w K mg base "tie_of" ["size", "pairs"] k (sp_tie_of K)) (f : Addr) (cdv : Value) (Ar : Around) (outer : List PySem.Env) (s : Shared) (H : Hp) (E : XK) (hr : Room k (Ar.deeper (envOfC "same" (defScope s_same) s.heap.objs.size f cdv))) :
    PSs (cxOf CX0 P w K mg base n_same "same" (defScope s_same) f cdv Ar outer s H E).nox (defBody s_same) (t_same K) :=
  (pss_one (ps_ret (pe_cg c_tie_of hr (pa_cons (pv 0) (pa_cons (pe_lc (own := [("a", 1)]) (g := (gName 1)) (tt := tYes) rfl sc_same.nd (pi_range1 (by rfl) Z_range (pa_cons (pv 0) pa_nil)) (blkOk_by (own := [("a", 1)]) (N := n_same) (sc := defScope s_same) (by decide +kernel)) (fun _ _ _ _ _ => (pg_name (i := 1) sc_same.nd rfl (by first | exact Or.inl rfl | exact Or.inr rfl))) (fun _ _ _ _ _ => pts_nil) (fun _ _ _ _ _ => (pe_tup (pa_cons (pv 1) (pa_cons (pv 1) pa_nil))))) pa_nil)))))
abbrev s_every : Stmt := topS 15
abbrev n_every : List Str := ["size"]
theorem sc_every : FnScope n_every ["size"] (defScope s_every) := ⟨rfl, rfl, rfl, by decide +kernel, rfl, by decide +kernel, by decide +kernel⟩
theorem p_every {k : Nat} (f : Addr) (cdv : Value) (Ar : Around) (outer : List PySem.Env) (s : Shared) (H : Hp) (E : XK) (hr : Room k (Ar.deeper (envOfC "every" (defScope s_every) s.heap.objs.size f cdv))) :
    PSs (cxOf CX0 P w K mg base n_every "every" (defScope s_every) f cdv Ar outer s H E).nox (defBody s_every) (t_every K) :=
  (pss_one (ps_ret (pe_op op_sub (pe_op op_shl pe_int (pe_op op_mul (pv 0) (pv 0))) pe_int)))
abbrev s_kind_tie : Stmt := topS 17
abbrev n_kind_tie : List Str := ["size", "kind", "tie", "a"]
theorem sc_kind_tie : FnScope n_kind_tie ["size", "kind"] (defScope s_kind_tie) := ⟨rfl, rfl, rfl, by decide +kernel, rfl, by decide +kernel, by decide +kernel⟩
theorem p_kind_tie {k : Nat} (Z_range : mg "range" = none) (f : Addr) (cdv : Value) (Ar : Around) (outer : List PySem.Env) (s : Shared) (H : Hp) (E : XK) (hr : Room k (Ar.deeper (envOfC "kind_tie" (defScope s_kind_tie) s.heap.objs.size f cdv))) :
    PSs (cxOf CX0 P w K mg base n_kind_tie "kind_tie" (defScope s_kind_tie) f cdv Ar outer s H E).nox (defBody s_kind_tie) (t_kind_tie K) :=
  (pss_cons (ps_set (i := 2) sc_kind_tie.nd rfl (by first | exact Or.inl rfl | exact Or.inr rfl) pe_int)
    (pss_cons (ps_for PassesOwn.never rfl (pi_range1 (by rfl) Z_range (pa_cons (pv 0) pa_nil)) (pg_name (i := 3) sc_kind_tie.nd rfl (by first | exact Or.inl rfl | exact Or.inr rfl)) (pss_one (ps_if (pt_cmpR op_eq (pe_op op_and (pe_op op_shr (pv 1) (pv 3)) pe_int) pe_int (nomark _)) (pss_one (ps_set (i := 2) sc_kind_tie.nd rfl (by first | exact Or.inl rfl | exact Or.inr rfl) (pe_op op_or (pv 2) (pe_op op_shl pe_int (pe_op op_add (pe_op op_mul (pv 3) (pv 0)) (pv 3)))))) pss_nil)))
    (pss_one (ps_ret (pv 2)))))
abbrev s_named : Stmt := topS 18
abbrev n_named : List Str := ["words", "world", "name", "size", "kinds", "ties"]
theorem sc_named : FnScope n_named ["words", "world", "name"] (defScope s_named) := ⟨rfl, rfl, rfl, by decide +kernel, rfl, by decide +kernel, by decide +kernel⟩
theorem p_named {k : Nat} (c_kind_tie : Good P w K mg base "kind_tie" ["size", "kind"] k (sp_kind_tie K)) (f : Addr) (cdv : Value) (Ar : Around) (outer : List PySem.Env) (s : Shared) (H : Hp) (E : XK) (hr : Room k (Ar.deeper (envOfC "named" (defScope s_named) s.heap.objs.size f cdv))) :
    PSs (cxOf CX0 P w K mg base n_named "named" (defScope s_named) f cdv Ar outer s H E).nox (defBody s_named) (t_named K) :=
  (pss_cons (ps_asg (pv 1) (pg_tup rfl (pgs_cons (pg_name (i := 3) sc_named.nd rfl (by first | exact Or.inl rfl | exact Or.inr rfl)) (pgs_cons (pg_name (i := 4) sc_named.nd rfl (by first | exact Or.inl rfl | exact Or.inr rfl)) (pgs_cons (pg_name (i := 5) sc_named.nd rfl (by first | exact Or.inl rfl | exact Or.inr rfl)) pgs_nil)))))
    (pss_cons (ps_if (pt_cmpR op_in_seq (pv 2) (pe_ix ix_tup (pv 0) pe_int (fun _ _ => rfl)) (by rfl)) (pss_one (ps_ret (pe_cg c_kind_tie hr (pa_cons (pv 3) (pa_cons (pe_ix ix_tup (pv 4) (pe_tix (pe_ix ix_tup (pv 0) pe_int (fun _ _ => rfl)) (pa_cons (pv 2) pa_nil)) (fun _ _ => rfl)) pa_nil))))) pss_nil)
    (pss_one (ps_ret (pe_ix ix_tup (pv 5) (pe_tix (pe_ix ix_tup (pv 0) pe_int (fun _ _ => rfl)) (pa_cons (pv 2) pa_nil)) (fun _ _ => rfl))))))
abbrev s_made : Stmt := topS 19
abbrev n_made : List Str := ["size", "word", "parts"]
theorem sc_made : FnScope n_made ["size", "word", "parts"] (defScope s_made) := ⟨rfl, rfl, rfl, by decide +kernel, rfl, by decide +kernel, by decide +kernel⟩
theorem p_made {k : Nat} (c_same : Good P w K mg base "same" ["size"] k (sp_same K)) (c_every : Good P w K mg base "every" ["size"] k (sp_every K)) (c_either : Good P w K mg base "either" ["one", "other"] k (sp_either K)) (c_without : Good P w K mg base "without" ["one", "other"] k (sp_without K)) (c_common : Good P w K mg base "common" ["one", "other"] k (sp_common K)) (c_joined : Good P w K mg base "joined" ["size", "one", "other"] k (sp_joined K)) (c_turned : Good P w K mg base "turned" ["size", "tie"] k (sp_turned K)) (c_closed : Good P w K mg base "closed" ["size", "tie"] k (sp_closed K)) (f : Addr) (cdv : Value) (Ar : Around) (outer : List PySem.Env) (s : Shared) (H : Hp) (E : XK) (hr : Room k (Ar.deeper (envOfC "made" (defScope s_made) s.heap.objs.size f cdv))) :
    PSs (cxOf CX0 P w K mg base n_made "made" (defScope s_made) f cdv Ar outer s H E).nox (defBody s_made) (t_made K) :=
  (pss_cons (ps_if (pt_cmpR op_eq (pv 1) pe_str (nomark _)) (pss_one (ps_ret (pe_cg c_same hr (pa_cons (pv 0) pa_nil)))) pss_nil)
    (pss_cons (ps_if (pt_cmpR op_eq (pv 1) pe_str (nomark _)) (pss_one (ps_ret (pe_cg c_every hr (pa_cons (pv 0) pa_nil)))) pss_nil)
    (pss_cons (ps_if (pt_cmpR op_eq (pv 1) pe_str (nomark _)) (pss_one (ps_ret pe_int)) pss_nil)
    (pss_cons (ps_if (pt_cmpR op_eq (pv 1) pe_str (nomark _)) (pss_one (ps_ret (pe_cg c_either hr (pa_cons (pe_ix ix_list (pv 2) pe_int (fun _ _ => rfl)) (pa_cons (pe_ix ix_list (pv 2) pe_int (fun _ _ => rfl)) pa_nil))))) pss_nil)
    (pss_cons (ps_if (pt_cmpR op_eq (pv 1) pe_str (nomark _)) (pss_one (ps_ret (pe_cg c_without hr (pa_cons (pe_ix ix_list (pv 2) pe_int (fun _ _ => rfl)) (pa_cons (pe_ix ix_list (pv 2) pe_int (fun _ _ => rfl)) pa_nil))))) pss_nil)
    (pss_cons (ps_if (pt_cmpR op_eq (pv 1) pe_str (nomark _)) (pss_one (ps_ret (pe_cg c_common hr (pa_cons (pe_ix ix_list (pv 2) pe_int (fun _ _ => rfl)) (pa_cons (pe_ix ix_list (pv 2) pe_int (fun _ _ => rfl)) pa_nil))))) pss_nil)
    (pss_cons (ps_if (pt_cmpR op_eq (pv 1) pe_str (nomark _)) (pss_one (ps_ret (pe_cg c_joined hr (pa_cons (pv 0) (pa_cons (pe_ix ix_list (pv 2) pe_int (fun _ _ => rfl)) (pa_cons (pe_ix ix_list (pv 2) pe_int (fun _ _ => rfl)) pa_nil)))))) pss_nil)
    (pss_cons (ps_if (pt_cmpR op_eq (pv 1) pe_str (nomark _)) (pss_one (ps_ret (pe_cg c_turned hr (pa_cons (pv 0) (pa_cons (pe_ix ix_list (pv 2) pe_int (fun _ _ => rfl)) pa_nil))))) pss_nil)
    (pss_one (ps_ret (pe_cg c_closed hr (pa_cons (pv 0) (pa_cons (pe_ix ix_list (pv 2) pe_int (fun _ _ => rfl)) pa_nil)))))))))))))
abbrev s_tied_numbers : Stmt := topS 20
abbrev n_tied_numbers : List Str := ["size", "tie", "numbers", "a", "b"]
theorem sc_tied_numbers : FnScope n_tied_numbers ["size", "tie"] (defScope s_tied_numbers) := ⟨rfl, rfl, rfl, by decide +kernel, rfl, by decide +kernel, by decide +kernel⟩
theorem p_tied_numbers {k : Nat} (c_pairs_of : Good P w K mg base "pairs_of" ["size", "tie"] k (sp_pairs_of K)) (f : Addr) (cdv : Value) (Ar : Around) (outer : List PySem.Env) (s : Shared) (H : Hp) (E : XK) (hr : Room k (Ar.deeper (envOfC "tied_numbers" (defScope s_tied_numbers) s.heap.objs.size f cdv))) :
    PSs (cxOf CX0 P w K mg base n_tied_numbers "tied_numbers" (defScope s_tied_numbers) f cdv Ar outer s H E).nox (defBody s_tied_numbers) (t_tied_numbers K) :=
  (pss_cons (ps_set (i := 2) sc_tied_numbers.nd rfl (by first | exact Or.inl rfl | exact Or.inr rfl) (pe_op op_rep (pe_lst (pa_cons pe_int pa_nil)) (pv 0)))
    (pss_cons (ps_for PassesOwn.never rfl (pi_list (pe_cg c_pairs_of hr (pa_cons (pv 0) (pa_cons (pv 1) pa_nil)))) (pg_tup rfl (pgs_cons (pg_name (i := 3) sc_tied_numbers.nd rfl (by first | exact Or.inl rfl | exact Or.inr rfl)) (pgs_cons (pg_name (i := 4) sc_tied_numbers.nd rfl (by first | exact Or.inl rfl | exact Or.inr rfl)) pgs_nil))) (pss_one (ps_augS (pv 2) (pv 3) get_list pe_int ip_add set_list)))
    (pss_one (ps_ret (pv 2)))))
abbrev s_bounds : Stmt := topS 22
abbrev n_bounds : List Str := ["words", "part", "expression", "low", "high", "word", "inner", "musts", "mays", "other", "must", "may"]
theorem sc_bounds : FnScope n_bounds ["words", "part", "expression"] (defScope s_bounds) := ⟨rfl, rfl, rfl, by decide +kernel, rfl, by decide +kernel, by decide +kernel⟩
theorem p_bounds {m : Nat} {k : Nat} (c_named : Good P w K mg base "named" ["words", "world", "name"] k (sp_named K)) (c_bounds : Good P w K mg base "bounds" ["words", "part", "expression"] k (sp_bounds K m)) (c_without : Good P w K mg base "without" ["one", "other"] k (sp_without K)) (c_made : Good P w K mg base "made" ["size", "word", "parts"] k (sp_made K)) (f : Addr) (cdv : Value) (Ar : Around) (outer : List PySem.Env) (s : Shared) (H : Hp) (E : XK) (hr : Room k (Ar.deeper (envOfC "bounds" (defScope s_bounds) s.heap.objs.size f cdv))) :
    PSs (cxOf CX0 P w K mg base n_bounds "bounds" (defScope s_bounds) f cdv Ar outer s H E).nox (defBody s_bounds) (t_bounds K m) :=
  (pss_cons (ps_asg (pv 1) (pg_tup rfl (pgs_cons (pg_name (i := 3) sc_bounds.nd rfl (by first | exact Or.inl rfl | exact Or.inr rfl)) (pgs_cons (pg_name (i := 4) sc_bounds.nd rfl (by first | exact Or.inl rfl | exact Or.inr rfl)) pgs_nil))))
    (pss_cons (ps_set (i := 5) sc_bounds.nd rfl (by first | exact Or.inl rfl | exact Or.inr rfl) (pe_ix ix_tup (pv 2) pe_int (fun _ _ => rfl)))
    (pss_cons (ps_if (pt_cmpR op_eq (pv 5) pe_str (nomark _)) (pss_one (ps_ret (pe_tup (pa_cons (pe_cg c_named hr (pa_cons (pv 0) (pa_cons (pv 3) (pa_cons (pe_ix ix_tup (pv 2) pe_int (fun _ _ => rfl)) pa_nil)))) (pa_cons (pe_cg c_named hr (pa_cons (pv 0) (pa_cons (pv 4) (pa_cons (pe_ix ix_tup (pv 2) pe_int (fun _ _ => rfl)) pa_nil)))) pa_nil))))) pss_nil)
    (pss_cons (ps_setLc (i := 6) (own := [("other", 9)]) (g := (gName 9)) (tt := tYes) rfl sc_bounds.nd rfl rfl (sw_true rfl rfl rfl (by decide +kernel)) (pi_tup (pe_slice sl_tupA (pv 2) (po_some pe_int) po_none)) (blkOk_by (own := [("other", 9)]) (N := n_bounds) (sc := defScope s_bounds) (by decide +kernel)) (fun _ _ _ _ _ => (pg_name (i := 9) sc_bounds.nd rfl (by first | exact Or.inl rfl | exact Or.inr rfl))) (fun _ _ _ _ _ => pts_nil) (fun _ _ _ _ _ => (pe_cg c_bounds hr (pa_cons (pv 0) (pa_cons (pv 1) (pa_cons (pv 9) pa_nil))))))
    (pss_cons (ps_setLc (i := 7) (own := [("must", 10), ("may", 11)]) (g := (gTup K 2 (gCons (gName 10) (gCons (gName 11) gNil)))) (tt := tYes) rfl sc_bounds.nd rfl rfl (sw_true rfl rfl rfl (by decide +kernel)) (pi_list (pv 6)) (blkOk_by (own := [("must", 10), ("may", 11)]) (N := n_bounds) (sc := defScope s_bounds) (by decide +kernel)) (fun _ _ _ _ _ => (pg_tup rfl (pgs_cons (pg_name (i := 10) sc_bounds.nd rfl (by first | exact Or.inl rfl | exact Or.inr rfl)) (pgs_cons (pg_name (i := 11) sc_bounds.nd rfl (by first | exact Or.inl rfl | exact Or.inr rfl)) pgs_nil)))) (fun _ _ _ _ _ => pts_nil) (fun _ _ _ _ _ => (pv 10)))
    (pss_cons (ps_setLc (i := 8) (own := [("must", 10), ("may", 11)]) (g := (gTup K 2 (gCons (gName 10) (gCons (gName 11) gNil)))) (tt := tYes) rfl sc_bounds.nd rfl rfl (sw_true rfl rfl rfl (by decide +kernel)) (pi_list (pv 6)) (blkOk_by (own := [("must", 10), ("may", 11)]) (N := n_bounds) (sc := defScope s_bounds) (by decide +kernel)) (fun _ _ _ _ _ => (pg_tup rfl (pgs_cons (pg_name (i := 10) sc_bounds.nd rfl (by first | exact Or.inl rfl | exact Or.inr rfl)) (pgs_cons (pg_name (i := 11) sc_bounds.nd rfl (by first | exact Or.inl rfl | exact Or.inr rfl)) pgs_nil)))) (fun _ _ _ _ _ => pts_nil) (fun _ _ _ _ _ => (pv 11)))
    (pss_cons (ps_if (pt_cmpR op_eq (pv 5) pe_str (nomark _)) (pss_one (ps_ret (pe_tup (pa_cons (pe_cg c_without hr (pa_cons (pe_ix ix_list (pv 7) pe_int (fun _ _ => rfl)) (pa_cons (pe_ix ix_list (pv 8) pe_int (fun _ _ => rfl)) pa_nil))) (pa_cons (pe_cg c_without hr (pa_cons (pe_ix ix_list (pv 8) pe_int (fun _ _ => rfl)) (pa_cons (pe_ix ix_list (pv 7) pe_int (fun _ _ => rfl)) pa_nil))) pa_nil))))) pss_nil)
    (pss_one (ps_ret (pe_tup (pa_cons (pe_cg c_made hr (pa_cons (pe_ix ix_tup (pv 3) pe_int (fun _ _ => rfl)) (pa_cons (pv 5) (pa_cons (pv 7) pa_nil)))) (pa_cons (pe_cg c_made hr (pa_cons (pe_ix ix_tup (pv 3) pe_int (fun _ _ => rfl)) (pa_cons (pv 5) (pa_cons (pv 8) pa_nil)))) pa_nil))))))))))))
abbrev s_told_in : Stmt := topS 23
abbrev n_told_in : List Str := ["one", "other"]
theorem sc_told_in : FnScope n_told_in ["one", "other"] (defScope s_told_in) := ⟨rfl, rfl, rfl, by decide +kernel, rfl, by decide +kernel, by decide +kernel⟩
theorem p_told_in {k : Nat} (c_without : Good P w K mg base "without" ["one", "other"] k (sp_without K)) (f : Addr) (cdv : Value) (Ar : Around) (outer : List PySem.Env) (s : Shared) (H : Hp) (E : XK) (hr : Room k (Ar.deeper (envOfC "told_in" (defScope s_told_in) s.heap.objs.size f cdv))) :
    PSs (cxOf CX0 P w K mg base n_told_in "told_in" (defScope s_told_in) f cdv Ar outer s H E).nox (defBody s_told_in) (t_told_in K) :=
  (pss_cons (ps_if (pt_cmpR op_eq (pe_cg c_without hr (pa_cons (pe_ix ix_tup (pv 0) pe_int (fun _ _ => rfl)) (pa_cons (pe_ix ix_tup (pv 1) pe_int (fun _ _ => rfl)) pa_nil))) pe_int (nomark _)) (pss_one (ps_ret pe_bl)) pss_nil)
    (pss_cons (ps_if (pt_cmpR op_ne (pe_cg c_without hr (pa_cons (pe_ix ix_tup (pv 0) pe_int (fun _ _ => rfl)) (pa_cons (pe_ix ix_tup (pv 1) pe_int (fun _ _ => rfl)) pa_nil))) pe_int (nomark _)) (pss_one (ps_ret pe_bl)) pss_nil)
    (pss_one (ps_ret pe_non))))
abbrev s_told_both : Stmt := topS 24
abbrev n_told_both : List Str := ["one", "other"]
theorem sc_told_both : FnScope n_told_both ["one", "other"] (defScope s_told_both) := ⟨rfl, rfl, rfl, by decide +kernel, rfl, by decide +kernel, by decide +kernel⟩
theorem p_told_both {k : Nat} (f : Addr) (cdv : Value) (Ar : Around) (outer : List PySem.Env) (s : Shared) (H : Hp) (E : XK) (hr : Room k (Ar.deeper (envOfC "told_both" (defScope s_told_both) s.heap.objs.size f cdv))) :
    PSs (cxOf CX0 P w K mg base n_told_both "told_both" (defScope s_told_both) f cdv Ar outer s H E).nox (defBody s_told_both) (t_told_both K) :=
  (pss_cons (ps_if (PW.pt (pw_or (pt_cmpR op_isX (pv 0) pe_bl (nomark _)) (pw_or1 (pt_cmpR op_isX (pv 1) pe_bl (nomark _))))) (pss_one (ps_ret pe_bl)) pss_nil)
    (pss_cons (ps_if (PW.pt (pw_or (pt_cmpR op_isN1 (pv 0) pe_non (nomark _)) (pw_or1 (pt_cmpR op_isN1 (pv 1) pe_non (nomark _))))) (pss_one (ps_ret pe_non)) pss_nil)
    (pss_one (ps_ret pe_bl))))
abbrev s_told_not : Stmt := topS 25
abbrev n_told_not : List Str := ["one"]
theorem sc_told_not : FnScope n_told_not ["one"] (defScope s_told_not) := ⟨rfl, rfl, rfl, by decide +kernel, rfl, by decide +kernel, by decide +kernel⟩
theorem p_told_not {k : Nat} (f : Addr) (cdv : Value) (Ar : Around) (outer : List PySem.Env) (s : Shared) (H : Hp) (E : XK) (hr : Room k (Ar.deeper (envOfC "told_not" (defScope s_told_not) s.heap.objs.size f cdv))) :
    PSs (cxOf CX0 P w K mg base n_told_not "told_not" (defScope s_told_not) f cdv Ar outer s H E).nox (defBody s_told_not) (t_told_not K) :=
  (pss_cons (ps_if (pt_cmpR op_isN1 (pv 0) pe_non (nomark _)) (pss_one (ps_ret pe_non)) pss_nil)
    (pss_one (ps_ret (pe_not (pv 0)))))
abbrev s_told_least : Stmt := topS 26
abbrev n_told_least : List Str := ["low", "high", "number", "one"]
theorem sc_told_least : FnScope n_told_least ["low", "high", "number"] (defScope s_told_least) := ⟨rfl, rfl, rfl, by decide +kernel, rfl, by decide +kernel, by decide +kernel⟩
theorem p_told_least {k : Nat} (Z_all : mg "all" = none) (Z_any : mg "any" = none) (f : Addr) (cdv : Value) (Ar : Around) (outer : List PySem.Env) (s : Shared) (H : Hp) (E : XK) (hr : Room k (Ar.deeper (envOfC "told_least" (defScope s_told_least) s.heap.objs.size f cdv))) :
    PSs (cxOf CX0 P w K mg base n_told_least "told_least" (defScope s_told_least) f cdv Ar outer s H E).nox (defBody s_told_least) (t_told_least K) :=
  (pss_cons (ps_if (pt_val (pe_callB (cr_all rfl) (by rfl) Z_all (by decide +kernel) (pa_cons (pe_lc (own := [("one", 3)]) (g := (gName 3)) (tt := tYes) rfl sc_told_least.nd (pi_list (pv 0)) (blkOk_by (own := [("one", 3)]) (N := n_told_least) (sc := defScope s_told_least) (by decide +kernel)) (fun _ _ _ _ _ => (pg_name (i := 3) sc_told_least.nd rfl (by first | exact Or.inl rfl | exact Or.inr rfl))) (fun _ _ _ _ _ => pts_nil) (fun _ _ _ _ _ => (pe_cmpR op_ge (pv 3) (pv 2) (nomark _)))) pa_nil))) (pss_one (ps_ret pe_bl)) pss_nil)
    (pss_cons (ps_if (pt_val (pe_callB (cr_any rfl) (by rfl) Z_any (by decide +kernel) (pa_cons (pe_lc (own := [("one", 3)]) (g := (gName 3)) (tt := tYes) rfl sc_told_least.nd (pi_list (pv 1)) (blkOk_by (own := [("one", 3)]) (N := n_told_least) (sc := defScope s_told_least) (by decide +kernel)) (fun _ _ _ _ _ => (pg_name (i := 3) sc_told_least.nd rfl (by first | exact Or.inl rfl | exact Or.inr rfl))) (fun _ _ _ _ _ => pts_nil) (fun _ _ _ _ _ => (pe_cmpR op_lt (pv 3) (pv 2) (nomark _)))) pa_nil))) (pss_one (ps_ret pe_bl)) pss_nil)
    (pss_one (ps_ret pe_non))))
abbrev s_told_most : Stmt := topS 27
abbrev n_told_most : List Str := ["low", "high", "number", "one"]
theorem sc_told_most : FnScope n_told_most ["low", "high", "number"] (defScope s_told_most) := ⟨rfl, rfl, rfl, by decide +kernel, rfl, by decide +kernel, by decide +kernel⟩
theorem p_told_most {k : Nat} (Z_all : mg "all" = none) (Z_any : mg "any" = none) (f : Addr) (cdv : Value) (Ar : Around) (outer : List PySem.Env) (s : Shared) (H : Hp) (E : XK) (hr : Room k (Ar.deeper (envOfC "told_most" (defScope s_told_most) s.heap.objs.size f cdv))) :
    PSs (cxOf CX0 P w K mg base n_told_most "told_most" (defScope s_told_most) f cdv Ar outer s H E).nox (defBody s_told_most) (t_told_most K) :=
  (pss_cons (ps_if (pt_val (pe_callB (cr_all rfl) (by rfl) Z_all (by decide +kernel) (pa_cons (pe_lc (own := [("one", 3)]) (g := (gName 3)) (tt := tYes) rfl sc_told_most.nd (pi_list (pv 1)) (blkOk_by (own := [("one", 3)]) (N := n_told_most) (sc := defScope s_told_most) (by decide +kernel)) (fun _ _ _ _ _ => (pg_name (i := 3) sc_told_most.nd rfl (by first | exact Or.inl rfl | exact Or.inr rfl))) (fun _ _ _ _ _ => pts_nil) (fun _ _ _ _ _ => (pe_cmpR op_le (pv 3) (pv 2) (nomark _)))) pa_nil))) (pss_one (ps_ret pe_bl)) pss_nil)
    (pss_cons (ps_if (pt_val (pe_callB (cr_any rfl) (by rfl) Z_any (by decide +kernel) (pa_cons (pe_lc (own := [("one", 3)]) (g := (gName 3)) (tt := tYes) rfl sc_told_most.nd (pi_list (pv 0)) (blkOk_by (own := [("one", 3)]) (N := n_told_most) (sc := defScope s_told_most) (by decide +kernel)) (fun _ _ _ _ _ => (pg_name (i := 3) sc_told_most.nd rfl (by first | exact Or.inl rfl | exact Or.inr rfl))) (fun _ _ _ _ _ => pts_nil) (fun _ _ _ _ _ => (pe_cmpR op_gt (pv 3) (pv 2) (nomark _)))) pa_nil))) (pss_one (ps_ret pe_bl)) pss_nil)
    (pss_one (ps_ret pe_non))))
abbrev s_told_fact : Stmt := topS 28
abbrev n_told_fact : List Str := ["size", "saying", "parts", "word", "must", "may", "low", "high"]
theorem sc_told_fact : FnScope n_told_fact ["size", "saying", "parts"] (defScope s_told_fact) := ⟨rfl, rfl, rfl, by decide +kernel, rfl, by decide +kernel, by decide +kernel⟩
theorem p_told_fact {k : Nat} (Z_sum : mg "sum" = none) (c_told_in : Good P w K mg base "told_in" ["one", "other"] k (sp_told_in K)) (c_told_both : Good P w K mg base "told_both" ["one", "other"] k (sp_told_both K)) (c_tied_numbers : Good P w K mg base "tied_numbers" ["size", "tie"] k (sp_tied_numbers K)) (c_told_least : Good P w K mg base "told_least" ["low", "high", "number"] k (sp_told_least K)) (c_told_most : Good P w K mg base "told_most" ["low", "high", "number"] k (sp_told_most K)) (f : Addr) (cdv : Value) (Ar : Around) (outer : List PySem.Env) (s : Shared) (H : Hp) (E : XK) (hr : Room k (Ar.deeper (envOfC "told_fact" (defScope s_told_fact) s.heap.objs.size f cdv))) :
    PSs (cxOf CX0 P w K mg base n_told_fact "told_fact" (defScope s_told_fact) f cdv Ar outer s H E).nox (defBody s_told_fact) (t_told_fact K) :=
  (pss_cons (ps_set (i := 3) sc_told_fact.nd rfl (by first | exact Or.inl rfl | exact Or.inr rfl) (pe_ix ix_tup (pv 1) pe_int (fun _ _ => rfl)))
    (pss_cons (ps_if (pt_cmpR op_eq (pv 3) pe_str (nomark _)) (pss_one (ps_ret (pe_cg c_told_in hr (pa_cons (pe_ix ix_list (pv 2) pe_int (fun _ _ => rfl)) (pa_cons (pe_ix ix_list (pv 2) pe_int (fun _ _ => rfl)) pa_nil))))) pss_nil)
    (pss_cons (ps_if (pt_cmpR op_eq (pv 3) pe_str (nomark _)) (pss_one (ps_ret (pe_cg c_told_both hr (pa_cons (pe_cg c_told_in hr (pa_cons (pe_ix ix_list (pv 2) pe_int (fun _ _ => rfl)) (pa_cons (pe_ix ix_list (pv 2) pe_int (fun _ _ => rfl)) pa_nil))) (pa_cons (pe_cg c_told_in hr (pa_cons (pe_ix ix_list (pv 2) pe_int (fun _ _ => rfl)) (pa_cons (pe_ix ix_list (pv 2) pe_int (fun _ _ => rfl)) pa_nil))) pa_nil))))) pss_nil)
    (pss_cons (ps_asg (pe_ix ix_list (pv 2) pe_int (fun _ _ => rfl)) (pg_tup rfl (pgs_cons (pg_name (i := 4) sc_told_fact.nd rfl (by first | exact Or.inl rfl | exact Or.inr rfl)) (pgs_cons (pg_name (i := 5) sc_told_fact.nd rfl (by first | exact Or.inl rfl | exact Or.inr rfl)) pgs_nil))))
    (pss_cons (ps_set (i := 6) sc_told_fact.nd rfl (by first | exact Or.inl rfl | exact Or.inr rfl) (pe_cg c_tied_numbers hr (pa_cons (pv 0) (pa_cons (pv 4) pa_nil))))
    (pss_cons (ps_set (i := 7) sc_told_fact.nd rfl (by first | exact Or.inl rfl | exact Or.inr rfl) (pe_cg c_tied_numbers hr (pa_cons (pv 0) (pa_cons (pv 5) pa_nil))))
    (pss_cons (ps_if (pt_cmpR op_eq (pv 3) pe_str (nomark _)) (pss_one (ps_ret (pe_cg c_told_least hr (pa_cons (pv 6) (pa_cons (pv 7) (pa_cons (pe_ix ix_tup (pv 1) pe_int (fun _ _ => rfl)) pa_nil)))))) pss_nil)
    (pss_cons (ps_if (pt_cmpR op_eq (pv 3) pe_str (nomark _)) (pss_one (ps_ret (pe_cg c_told_most hr (pa_cons (pv 6) (pa_cons (pv 7) (pa_cons (pe_ix ix_tup (pv 1) pe_int (fun _ _ => rfl)) pa_nil)))))) pss_nil)
    (pss_cons (ps_if (pt_cmpR op_eq (pv 3) pe_str (nomark _)) (pss_one (ps_ret (pe_cg c_told_least hr (pa_cons (pe_lst (pa_cons (pe_callB (cr_sum rfl) (by rfl) Z_sum (by decide +kernel) (pa_cons (pv 6) pa_nil)) pa_nil)) (pa_cons (pe_lst (pa_cons (pe_callB (cr_sum rfl) (by rfl) Z_sum (by decide +kernel) (pa_cons (pv 7) pa_nil)) pa_nil)) (pa_cons pe_int pa_nil)))))) pss_nil)
    (pss_cons (ps_if (pt_cmpR op_eq (pv 3) pe_str (nomark _)) (pss_one (ps_ret (pe_cg c_told_most hr (pa_cons (pe_lst (pa_cons (pe_callB (cr_sum rfl) (by rfl) Z_sum (by decide +kernel) (pa_cons (pv 6) pa_nil)) pa_nil)) (pa_cons (pe_lst (pa_cons (pe_callB (cr_sum rfl) (by rfl) Z_sum (by decide +kernel) (pa_cons (pv 7) pa_nil)) pa_nil)) (pa_cons pe_int pa_nil)))))) pss_nil)
    (pss_cons (ps_if (pt_cmpR op_eq (pv 3) pe_str (nomark _)) (pss_one (ps_ret (pe_cg c_told_least hr (pa_cons (pe_lst (pa_cons (pe_callB (cr_sum rfl) (by rfl) Z_sum (by decide +kernel) (pa_cons (pv 6) pa_nil)) pa_nil)) (pa_cons (pe_lst (pa_cons (pe_callB (cr_sum rfl) (by rfl) Z_sum (by decide +kernel) (pa_cons (pv 7) pa_nil)) pa_nil)) (pa_cons (pe_ix ix_tup (pv 1) pe_int (fun _ _ => rfl)) pa_nil)))))) pss_nil)
    (pss_one (ps_ret (pe_cg c_told_most hr (pa_cons (pe_lst (pa_cons (pe_callB (cr_sum rfl) (by rfl) Z_sum (by decide +kernel) (pa_cons (pv 6) pa_nil)) pa_nil)) (pa_cons (pe_lst (pa_cons (pe_callB (cr_sum rfl) (by rfl) Z_sum (by decide +kernel) (pa_cons (pv 7) pa_nil)) pa_nil)) (pa_cons (pe_ix ix_tup (pv 1) pe_int (fun _ _ => rfl)) pa_nil)))))))))))))))))
abbrev s_told : Stmt := topS 29
abbrev n_told : List Str := ["words", "part", "saying", "word", "parts", "one", "other"]
theorem sc_told : FnScope n_told ["words", "part", "saying"] (defScope s_told) := ⟨rfl, rfl, rfl, by decide +kernel, rfl, by decide +kernel, by decide +kernel⟩
theorem p_told {m : Nat} {k : Nat} (Z_isinstance : mg "isinstance" = none) (Z_tuple : mg "tuple" = none) (c_told : Good P w K mg base "told" ["words", "part", "saying"] k (sp_told K m)) (c_told_not : Good P w K mg base "told_not" ["one"] k (sp_told_not K)) (c_told_both : Good P w K mg base "told_both" ["one", "other"] k (sp_told_both K)) (c_bounds : Good P w K mg base "bounds" ["words", "part", "expression"] k (sp_bounds K 9)) (c_told_fact : Good P w K mg base "told_fact" ["size", "saying", "parts"] k (sp_told_fact K)) (f : Addr) (cdv : Value) (Ar : Around) (outer : List PySem.Env) (s : Shared) (H : Hp) (E : XK) (hr : Room k (Ar.deeper (envOfC "told" (defScope s_told) s.heap.objs.size f cdv))) :
    PSs (cxOf CX0 P w K mg base n_told "told" (defScope s_told) f cdv Ar outer s H E).nox (defBody s_told) (t_told K m) :=
  (pss_cons (ps_set (i := 3) sc_told.nd rfl (by first | exact Or.inl rfl | exact Or.inr rfl) (pe_ix ix_tup (pv 2) pe_int (fun _ _ => rfl)))
    (pss_cons (ps_if (pt_cmpR op_eq (pv 3) pe_str (nomark _)) (pss_one (ps_ret (pe_cg c_told_not hr (pa_cons (pe_cg c_told hr (pa_cons (pv 0) (pa_cons (pv 1) (pa_cons (pe_ix ix_tup (pv 2) pe_int (fun _ _ => rfl)) pa_nil)))) pa_nil)))) pss_nil)
    (pss_cons (ps_if (pt_cmpR op_eq (pv 3) pe_str (nomark _)) (pss_one (ps_ret (pe_cg c_told_both hr (pa_cons (pe_cg c_told hr (pa_cons (pv 0) (pa_cons (pv 1) (pa_cons (pe_ix ix_tup (pv 2) pe_int (fun _ _ => rfl)) pa_nil)))) (pa_cons (pe_cg c_told hr (pa_cons (pv 0) (pa_cons (pv 1) (pa_cons (pe_ix ix_tup (pv 2) pe_int (fun _ _ => rfl)) pa_nil)))) pa_nil))))) pss_nil)
    (pss_cons (ps_if (pt_cmpR op_eq (pv 3) pe_str (nomark _)) (pss_cons (ps_set (i := 5) sc_told.nd rfl (by first | exact Or.inl rfl | exact Or.inr rfl) (pe_cg c_told_not hr (pa_cons (pe_cg c_told hr (pa_cons (pv 0) (pa_cons (pv 1) (pa_cons (pe_ix ix_tup (pv 2) pe_int (fun _ _ => rfl)) pa_nil)))) pa_nil)))
    (pss_cons (ps_set (i := 6) sc_told.nd rfl (by first | exact Or.inl rfl | exact Or.inr rfl) (pe_cg c_told_not hr (pa_cons (pe_cg c_told hr (pa_cons (pv 0) (pa_cons (pv 1) (pa_cons (pe_ix ix_tup (pv 2) pe_int (fun _ _ => rfl)) pa_nil)))) pa_nil)))
    (pss_one (ps_ret (pe_cg c_told_not hr (pa_cons (pe_cg c_told_both hr (pa_cons (pv 5) (pa_cons (pv 6) pa_nil))) pa_nil)))))) pss_nil)
    (pss_cons (ps_setLc (i := 4) (own := [("other", 6)]) (g := (gName 6)) (tt := (tB (tIsi K "tuple" (tVar 6)))) rfl sc_told.nd rfl rfl (sw_true rfl rfl rfl (by decide +kernel)) (pi_tup (pe_slice sl_tupA (pv 2) (po_some pe_int) po_none)) (blkOk_by (own := [("other", 6)]) (N := n_told) (sc := defScope s_told) (by decide +kernel)) (fun _ _ _ _ _ => (pg_name (i := 6) sc_told.nd rfl (by first | exact Or.inl rfl | exact Or.inr rfl))) (fun _ _ _ _ _ => (pts_one (pt_val (pe_isi (by rfl) Z_isinstance (by rfl) Z_tuple (by decide +kernel) (pv 6))))) (fun _ _ _ _ _ => (pe_cg c_bounds hr (pa_cons (pv 0) (pa_cons (pv 1) (pa_cons (pv 6) pa_nil))))))
    (pss_one (ps_ret (pe_cg c_told_fact hr (pa_cons (pe_ix ix_tup (pe_ix ix_tup (pv 1) pe_int (fun _ _ => rfl)) pe_int (fun _ _ => rfl)) (pa_cons (pv 2) (pa_cons (pv 4) pa_nil)))))))))))
end
end Wf


set_option maxHeartbeats 4000000

/-! The derivations: printed by gen.py. -/
namespace Wf
open PySem PySem.Spec PyProof.Rows L2
section
variable {P : Program} {w : World} {K : PySem.W.Frag} {mg : Str → Option Value} {base : Heap}
abbrev s__law_cell : Stmt := topS 31
abbrev n__law_cell : List Str := ["_law_script", "_law_k"]
theorem sc__law_cell : FnScope n__law_cell ["_law_script", "_law_k"] (defScope s__law_cell) := ⟨rfl, rfl, rfl, by decide +kernel, rfl, by decide +kernel, by decide +kernel⟩
theorem p__law_cell {k : Nat} (Z_sum : mg "sum" = none) (f : Addr) (cdv : Value) (Ar : Around) (outer : List PySem.Env) (s : Shared) (H : Hp) (E : XK) (hr : Room k (Ar.deeper (envOfC "_law_cell" (defScope s__law_cell) s.heap.objs.size f cdv))) :
    PSs (cxOf CX0 P w K mg base n__law_cell "_law_cell" (defScope s__law_cell) f cdv Ar outer s H E).nox (defBody s__law_cell) (t__law_cell K) :=
  (pss_one (ps_ret (pe_callB (cr_sum rfl) (by rfl) Z_sum (by decide +kernel) (pa_cons (pe_slice sl_list (pv 0) (po_some (pv 1)) (po_some (pe_op op_add (pv 1) pe_int))) pa_nil))))
abbrev s__law_purse : Stmt := topS 32
abbrev n__law_purse : List Str := ["_law_script", "_law_k", "_law_cell_here"]
theorem sc__law_purse : FnScope n__law_purse ["_law_script", "_law_k"] (defScope s__law_purse) := ⟨rfl, rfl, rfl, by decide +kernel, rfl, by decide +kernel, by decide +kernel⟩
theorem p__law_purse {k : Nat} (Z_int : mg "int" = none) (c__law_cell : Good P w K mg base "_law_cell" ["_law_script", "_law_k"] k (sp__law_cell K)) (f : Addr) (cdv : Value) (Ar : Around) (outer : List PySem.Env) (s : Shared) (H : Hp) (E : XK) (hr : Room k (Ar.deeper (envOfC "_law_purse" (defScope s__law_purse) s.heap.objs.size f cdv))) :
    PSs (cxOf CX0 P w K mg base n__law_purse "_law_purse" (defScope s__law_purse) f cdv Ar outer s H E).nox (defBody s__law_purse) (t__law_purse K) :=
  (pss_cons (ps_set (i := 2) sc__law_purse.nd rfl (by first | exact Or.inl rfl | exact Or.inr rfl) (pe_cg c__law_cell hr (pa_cons (pv 0) (pa_cons (pv 1) pa_nil))))
    (pss_cons (ps_if (pt_cmpR op_eq (pe_op op_modN (pe_cg c__law_cell hr (pa_cons (pv 0) (pa_cons pe_int pa_nil))) pe_int) pe_int (nomark _)) (pss_one (ps_ret (pe_pur (pe_lst (pa_cons (pe_op op_fdivN (pv 2) (pe_ix ix_list (pe_lst (pa_cons pe_int (pa_cons pe_int pa_nil))) (pe_callTy call_int1 (by rfl) Z_int (by decide +kernel) (pa_cons (pe_cmpR op_eq (pv 1) pe_int (nomark _)) pa_nil)) (fun _ _ => rfl))) (pa_cons pe_int (pa_cons pe_int pa_nil))))))) pss_nil)
    (pss_one (ps_ret (pe_pur (pe_lst (pa_cons (pe_op op_add (pe_op op_modN (pv 2) pe_int) pe_int) (pa_cons pe_int (pa_cons pe_int pa_nil)))))))))
abbrev s__law_next : Stmt := topS 33
abbrev n__law_next : List Str := ["_law_purse_here", "_law_many", "_law_other", "_law_answer"]
theorem sc__law_next : FnScope n__law_next ["_law_purse_here", "_law_many"] (defScope s__law_next) := ⟨rfl, rfl, rfl, by decide +kernel, rfl, by decide +kernel, by decide +kernel⟩
theorem p__law_next {k : Nat} (f : Addr) (cdv : Value) (Ar : Around) (outer : List PySem.Env) (s : Shared) (H : Hp) (E : XK) (hr : Room k (Ar.deeper (envOfC "_law_next" (defScope s__law_next) s.heap.objs.size f cdv))) :
    PSs (cxOf CX0 P w K mg base n__law_next "_law_next" (defScope s__law_next) f cdv Ar outer s H E).nox (defBody s__law_next) (t__law_next K) :=
  (pss_open (i := 0) (pss_cons (ps_asg (pe_op op_sub (pe_ix ix_list (pv 0) pe_int (fun _ _ => rfl)) pe_int) (pg_sub (pv 0) pe_int set_list))
    (pss_cons (ps_if (pt_cmpR op_lt (pe_ix ix_list (pv 0) pe_int (fun _ _ => rfl)) pe_int (nomark _)) (pss_one (ps_ret pe_int)) pss_nil)
    (pss_cons (ps_if (pt_cmpR op_eq (pe_ix ix_list (pv 0) pe_int (fun _ _ => rfl)) pe_int (nomark _)) (pss_cons (ps_set (i := 3) sc__law_next.nd rfl (by first | exact Or.inl rfl | exact Or.inr rfl) (pe_op op_modN (pe_ix ix_list (pv 0) pe_int (fun _ _ => rfl)) (pv 1)))
    (pss_cons (ps_asg (pe_op op_fdivN (pe_ix ix_list (pv 0) pe_int (fun _ _ => rfl)) (pv 1)) (pg_sub (pv 0) pe_int set_list))
    (pss_one (ps_ret (pv 3))))) pss_nil)
    (pss_cons (ps_asg (pe_op op_modN (pe_op op_add (pe_op op_add (pe_op op_mul (pe_ix ix_list (pv 0) pe_int (fun _ _ => rfl)) pe_int) (pe_op op_mul pe_int (pe_ix ix_list (pv 0) pe_int (fun _ _ => rfl)))) pe_int) pe_int) (pg_sub (pv 0) pe_int set_list))
    (pss_cons (ps_set (i := 2) sc__law_next.nd rfl (by first | exact Or.inl rfl | exact Or.inr rfl) (pe_op op_modN (pe_op op_mul (pe_ix ix_list (pv 0) pe_int (fun _ _ => rfl)) (pe_op op_add (pe_op op_fdivN (pe_ix ix_list (pv 0) pe_int (fun _ _ => rfl)) pe_int) pe_int)) pe_int))
    (pss_one (ps_ret (pe_op op_modN (pe_op op_modN (pe_op op_add (pe_op op_mul (pv 2) (pv 2)) (pe_ix ix_list (pv 0) pe_int (fun _ _ => rfl))) pe_int) (pv 1))))))))))
abbrev s__law_family : Stmt := topS 34
abbrev n__law_family : List Str := ["_law_cell_here", "_law_many", "_law_letters", "_law_first", "_law_stem", "_law_at", "_law_near", "_law_k"]
theorem sc__law_family : FnScope n__law_family ["_law_cell_here", "_law_many"] (defScope s__law_family) := ⟨rfl, rfl, rfl, by decide +kernel, rfl, by decide +kernel, by decide +kernel⟩
theorem p__law_family {k : Nat} (Z_range : mg "range" = none) (Z_len : mg "len" = none) (f : Addr) (cdv : Value) (Ar : Around) (outer : List PySem.Env) (s : Shared) (H : Hp) (E : XK) (hr : Room k (Ar.deeper (envOfC "_law_family" (defScope s__law_family) s.heap.objs.size f cdv))) :
    PSs (cxOf CX0 P w K mg base n__law_family "_law_family" (defScope s__law_family) f cdv Ar outer s H E).nox (defBody s__law_family) (t__law_family K) :=
  (pss_cons (ps_set (i := 2) sc__law_family.nd rfl (by first | exact Or.inl rfl | exact Or.inr rfl) pe_str)
    (pss_cons (ps_set (i := 3) sc__law_family.nd rfl (by first | exact Or.inl rfl | exact Or.inr rfl) (pe_op op_modN (pe_op op_fdivN (pv 0) pe_int) pe_int))
    (pss_cons (ps_if (pt_cmpR op_eq (pe_op op_modN (pv 0) pe_int) pe_int (nomark _)) (pss_one (ps_ret (pe_lc (own := [("_law_k", 7)]) (g := (gName 7)) (tt := tYes) rfl sc__law_family.nd (pi_range1 (by rfl) Z_range (pa_cons (pv 1) pa_nil)) (blkOk_by (own := [("_law_k", 7)]) (N := n__law_family) (sc := defScope s__law_family) (by decide +kernel)) (fun _ _ _ _ _ => (pg_name (i := 7) sc__law_family.nd rfl (by first | exact Or.inl rfl | exact Or.inr rfl))) (fun _ _ _ _ _ => pts_nil) (fun _ _ _ _ _ => (pe_ix ix_str (pv 2) (pe_op op_modN (pe_op op_add (pv 3) (pe_op op_mul (pe_op op_add pe_int (pe_op op_mul pe_int (pe_op op_modN (pe_op op_fdivN (pv 0) pe_int) pe_int))) (pv 7))) pe_int) (fun _ _ => rfl)))))) pss_nil)
    (pss_cons (ps_if (pt_cmpR op_eq (pe_op op_modN (pv 0) pe_int) pe_int (nomark _)) (pss_one (ps_ret (pe_lc (own := [("_law_k", 7)]) (g := (gName 7)) (tt := tYes) rfl sc__law_family.nd (pi_range1 (by rfl) Z_range (pa_cons (pv 1) pa_nil)) (blkOk_by (own := [("_law_k", 7)]) (N := n__law_family) (sc := defScope s__law_family) (by decide +kernel)) (fun _ _ _ _ _ => (pg_name (i := 7) sc__law_family.nd rfl (by first | exact Or.inl rfl | exact Or.inr rfl))) (fun _ _ _ _ _ => pts_nil) (fun _ _ _ _ _ => (pe_slice sl_str (pe_op op_add_str pe_str (pe_op op_mulS (pe_ix ix_str (pv 2) (pv 3) (fun _ _ => rfl)) pe_int)) po_none (po_some (pe_op op_add (pv 7) pe_int))))))) pss_nil)
    (pss_cons (ps_if (pt_cmpR op_eq (pe_op op_modN (pv 0) pe_int) pe_int (nomark _)) (pss_cons (ps_set (i := 6) sc__law_family.nd rfl (by first | exact Or.inl rfl | exact Or.inr rfl) (pe_lst (pa_cons pe_str (pa_cons pe_str (pa_cons pe_str (pa_cons pe_str (pa_cons pe_str (pa_cons pe_str (pa_cons pe_str (pa_cons pe_str (pa_cons pe_str (pa_cons pe_str (pa_cons pe_str (pa_cons pe_str pa_nil))))))))))))))
    (pss_cons (ps_set (i := 6) sc__law_family.nd rfl (by first | exact Or.inl rfl | exact Or.inr rfl) (pe_op op_cat (pv 6) (pe_lst (pa_cons pe_str (pa_cons pe_str (pa_cons pe_str (pa_cons pe_str pa_nil)))))))
    (pss_one (ps_ret (pe_lc (own := [("_law_k", 7)]) (g := (gName 7)) (tt := tYes) rfl sc__law_family.nd (pi_range1 (by rfl) Z_range (pa_cons (pv 1) pa_nil)) (blkOk_by (own := [("_law_k", 7)]) (N := n__law_family) (sc := defScope s__law_family) (by decide +kernel)) (fun _ _ _ _ _ => (pg_name (i := 7) sc__law_family.nd rfl (by first | exact Or.inl rfl | exact Or.inr rfl))) (fun _ _ _ _ _ => pts_nil) (fun _ _ _ _ _ => (pe_ix ix_list (pv 6) (pe_op op_modN (pe_op op_add (pv 3) (pe_op op_mul pe_int (pv 7))) pe_int) (fun _ _ => rfl)))))))) pss_nil)
    (pss_cons (ps_set (i := 4) sc__law_family.nd rfl (by first | exact Or.inl rfl | exact Or.inr rfl) (pe_slice sl_str (pe_op op_add_str pe_str (pe_op op_mulS (pe_ix ix_str (pv 2) (pv 3) (fun _ _ => rfl)) pe_int)) po_none (po_some (pe_op op_add pe_int (pe_op op_modN (pe_op op_fdivN (pv 0) pe_int) pe_int)))))
    (pss_cons (ps_set (i := 5) sc__law_family.nd rfl (by first | exact Or.inl rfl | exact Or.inr rfl) (pe_op op_modN (pe_op op_fdivN (pv 0) pe_int) (pe_op op_add (pe_callB call_len_str (by rfl) Z_len (by decide +kernel) (pa_cons (pv 4) pa_nil)) pe_int)))
    (pss_one (ps_ret (pe_lc (own := [("_law_k", 7)]) (g := (gName 7)) (tt := tYes) rfl sc__law_family.nd (pi_range1 (by rfl) Z_range (pa_cons (pv 1) pa_nil)) (blkOk_by (own := [("_law_k", 7)]) (N := n__law_family) (sc := defScope s__law_family) (by decide +kernel)) (fun _ _ _ _ _ => (pg_name (i := 7) sc__law_family.nd rfl (by first | exact Or.inl rfl | exact Or.inr rfl))) (fun _ _ _ _ _ => pts_nil) (fun _ _ _ _ _ => (pe_op op_add_str (pe_op op_add_str (pe_slice sl_str (pv 4) po_none (po_some (pv 5))) (pe_ix ix_str (pv 2) (pe_op op_modN (pe_op op_add (pe_op op_add (pv 3) pe_int) (pe_op op_mul pe_int (pv 7))) pe_int) (fun _ _ => rfl))) (pe_slice sl_str (pv 4) (po_some (pv 5)) po_none)))))))))))))
abbrev s__law_any_names : Stmt := topS 35
abbrev n__law_any_names : List Str := ["_law_script", "_law_kinds", "_law_ties", "_law_letters", "_law_taken", "_law_answer", "_law_purse_here", "_law_size_here", "_law_name", "_law_some", "_law_k", "_law_sign", "_law_one"]
theorem sc__law_any_names : FnScope n__law_any_names ["_law_script", "_law_kinds", "_law_ties"] (defScope s__law_any_names) := ⟨rfl, rfl, rfl, by decide +kernel, rfl, by decide +kernel, by decide +kernel⟩
theorem p__law_any_names {k : Nat} (Z_range : mg "range" = none) (c__law_purse : Good P w K mg base "_law_purse" ["_law_script", "_law_k"] k (sp__law_purse K)) (c__law_next : Good P w K mg base "_law_next" ["_law_purse_here", "_law_many"] k (sp__law_next K)) (f : Addr) (cdv : Value) (Ar : Around) (outer : List PySem.Env) (s : Shared) (H : Hp) (E : XK) (hr : Room k (Ar.deeper (envOfC "_law_any_names" (defScope s__law_any_names) s.heap.objs.size f cdv))) :
    PSs (cxOf CX0 P w K mg base n__law_any_names "_law_any_names" (defScope s__law_any_names) f cdv Ar outer s H E).nox (defBody s__law_any_names) (t__law_any_names K) :=
  (pss_cons (ps_set (i := 3) sc__law_any_names.nd rfl (by first | exact Or.inl rfl | exact Or.inr rfl) pe_str)
    (pss_cons (ps_set (i := 4) sc__law_any_names.nd rfl (by first | exact Or.inl rfl | exact Or.inr rfl) (pe_lst (pa_cons pe_str (pa_cons pe_str (pa_cons pe_str (pa_cons pe_str (pa_cons pe_str (pa_cons pe_str (pa_cons pe_str (pa_cons pe_str (pa_cons pe_str (pa_cons pe_str (pa_cons pe_str (pa_cons pe_str (pa_cons pe_str (pa_cons pe_str pa_nil))))))))))))))))
    (pss_cons (ps_set (i := 5) sc__law_any_names.nd rfl (by first | exact Or.inl rfl | exact Or.inr rfl) (pe_lst (pa_cons pe_str pa_nil)))
    (pss_cons (ps_for PassesOwn.never rfl (pi_list (pe_op op_cat (pe_op op_rep (pe_lst (pa_cons (pe_cg c__law_purse hr (pa_cons (pv 0) (pa_cons pe_int pa_nil))) pa_nil)) (pv 1)) (pe_op op_rep (pe_lst (pa_cons (pe_cg c__law_purse hr (pa_cons (pv 0) (pa_cons pe_int pa_nil))) pa_nil)) (pv 2)))) (pg_name (i := 6) sc__law_any_names.nd rfl (by first | exact Or.inl rfl | exact Or.inr rfl)) (pss_cons (ps_set (i := 7) sc__law_any_names.nd rfl (by first | exact Or.inl rfl | exact Or.inr rfl) (pe_op op_add pe_int (pe_cg c__law_next hr (pa_cons (pv 6) (pa_cons pe_int pa_nil)))))
    (pss_cons (ps_set (i := 8) sc__law_any_names.nd rfl (by first | exact Or.inl rfl | exact Or.inr rfl) (pe_join pe_str (pe_lc (own := [("_law_k", 10)]) (g := (gName 10)) (tt := tYes) rfl sc__law_any_names.nd (pi_range1 (by rfl) Z_range (pa_cons (pv 7) pa_nil)) (blkOk_by (own := [("_law_k", 10)]) (N := n__law_any_names) (sc := defScope s__law_any_names) (by decide +kernel)) (fun _ _ _ _ _ => (pg_name (i := 10) sc__law_any_names.nd rfl (by first | exact Or.inl rfl | exact Or.inr rfl))) (fun _ _ _ _ _ => pts_nil) (fun _ _ _ _ _ => (pe_ix ix_str (pv 3) (pe_cg c__law_next hr (pa_cons (pv 6) (pa_cons pe_int pa_nil))) (fun _ _ => rfl))))))
    (pss_cons (ps_if (pt_cmpR op_in_seq (pv 8) (pe_op op_cat (pv 4) (pv 5)) (by rfl)) (pss_cons (ps_setLc (i := 9) (own := [("_law_sign", 11)]) (g := (gName 11)) (tt := tYes) rfl sc__law_any_names.nd rfl rfl (sw_true rfl rfl rfl (by decide +kernel)) (pi_str (pv 3)) (blkOk_by (own := [("_law_sign", 11)]) (N := n__law_any_names) (sc := defScope s__law_any_names) (by decide +kernel)) (fun _ _ _ _ _ => (pg_name (i := 11) sc__law_any_names.nd rfl (by first | exact Or.inl rfl | exact Or.inr rfl))) (fun _ _ _ _ _ => pts_nil) (fun _ _ _ _ _ => (pe_op op_add_str (pe_slice sl_str (pv 8) po_none (po_some pe_int)) (pv 11))))
    (pss_one (ps_set (i := 8) sc__law_any_names.nd rfl (by first | exact Or.inl rfl | exact Or.inr rfl) (pe_ix ix_list (pe_lc (own := [("_law_one", 12)]) (g := (gName 12)) (tt := (tTest (tOp (rIn K true) (tVar 12) (tOp rCat (tVar 4) (tVar 5))))) rfl sc__law_any_names.nd (pi_list (pv 9)) (blkOk_by (own := [("_law_one", 12)]) (N := n__law_any_names) (sc := defScope s__law_any_names) (by decide +kernel)) (fun _ _ _ _ _ => (pg_name (i := 12) sc__law_any_names.nd rfl (by first | exact Or.inl rfl | exact Or.inr rfl))) (fun _ _ _ _ _ => (pts_one (pt_cmpR op_notIn_seq (pv 12) (pe_op op_cat (pv 4) (pv 5)) (by rfl)))) (fun _ _ _ _ _ => (pv 12))) pe_int (fun _ _ => rfl))))) pss_nil)
    (pss_one (ps_expr (pe_bm PySem.F.plainAttrs_list PySem.F.slot_list_append PySem.F.type_list_append mt_append (pv 5) (pa_cons (pv 8) pa_nil))))))))
    (pss_one (ps_ret (pe_slice sl_list (pv 5) (po_some pe_int) po_none)))))))
abbrev s__law_words : Stmt := topS 36
abbrev n__law_words : List Str := ["_law_script", "_law_purse_here", "_law_kinds", "_law_ties", "_law_number_here", "_law_names"]
theorem sc__law_words : FnScope n__law_words ["_law_script"] (defScope s__law_words) := ⟨rfl, rfl, rfl, by decide +kernel, rfl, by decide +kernel, by decide +kernel⟩
theorem p__law_words {k : Nat} (Z_sorted : mg "sorted" = none) (Z_tuple : mg "tuple" = none) (c__law_purse : Good P w K mg base "_law_purse" ["_law_script", "_law_k"] k (sp__law_purse K)) (c__law_next : Good P w K mg base "_law_next" ["_law_purse_here", "_law_many"] k (sp__law_next K)) (c__law_family : Good P w K mg base "_law_family" ["_law_cell_here", "_law_many"] k (sp__law_family K)) (c__law_cell : Good P w K mg base "_law_cell" ["_law_script", "_law_k"] k (sp__law_cell K)) (c__law_any_names : Good P w K mg base "_law_any_names" ["_law_script", "_law_kinds", "_law_ties"] k (sp__law_any_names K)) (f : Addr) (cdv : Value) (Ar : Around) (outer : List PySem.Env) (s : Shared) (H : Hp) (E : XK) (hr : Room k (Ar.deeper (envOfC "_law_words" (defScope s__law_words) s.heap.objs.size f cdv))) :
    PSs (cxOf CX0 P w K mg base n__law_words "_law_words" (defScope s__law_words) f cdv Ar outer s H E).nox (defBody s__law_words) (t__law_words K) :=
  (pss_cons (ps_set (i := 1) sc__law_words.nd rfl (by first | exact Or.inl rfl | exact Or.inr rfl) (pe_cg c__law_purse hr (pa_cons (pv 0) (pa_cons pe_int pa_nil))))
    (pss_cons (ps_set (i := 2) sc__law_words.nd rfl (by first | exact Or.inl rfl | exact Or.inr rfl) (pe_cg c__law_next hr (pa_cons (pv 1) (pa_cons pe_int pa_nil))))
    (pss_cons (ps_set (i := 3) sc__law_words.nd rfl (by first | exact Or.inl rfl | exact Or.inr rfl) (pe_cg c__law_next hr (pa_cons (pv 1) (pa_cons pe_int pa_nil))))
    (pss_cons (ps_set (i := 4) sc__law_words.nd rfl (by first | exact Or.inl rfl | exact Or.inr rfl) (pe_cg c__law_next hr (pa_cons (pv 1) (pa_cons (pe_op op_pow pe_int pe_int) pa_nil))))
    (pss_cons (ps_set (i := 5) sc__law_words.nd rfl (by first | exact Or.inl rfl | exact Or.inr rfl) (pe_cg c__law_family hr (pa_cons (pe_op op_fdivN (pv 4) pe_int) (pa_cons (pe_op op_add (pv 2) (pv 3)) pa_nil))))
    (pss_cons (ps_if (pt_cmpR op_eq (pe_op op_modN (pv 4) pe_int) pe_int (nomark _)) (pss_one (ps_set (i := 5) sc__law_words.nd rfl (by first | exact Or.inl rfl | exact Or.inr rfl) (pe_revL (pv 5)))) pss_nil)
    (pss_cons (ps_if (pt_cmpR op_eq (pe_op op_modN (pe_cg c__law_cell hr (pa_cons (pv 0) (pa_cons pe_int pa_nil))) pe_int) pe_int (nomark _)) (pss_one (ps_set (i := 5) sc__law_words.nd rfl (by first | exact Or.inl rfl | exact Or.inr rfl) (pe_cg c__law_any_names hr (pa_cons (pv 0) (pa_cons (pv 2) (pa_cons (pv 3) pa_nil)))))) pss_nil)
    (pss_one (ps_ret (pe_tup (pa_cons (pe_callTy call_tupleF (by rfl) Z_tuple (by decide +kernel) (pa_cons (pe_callB cr_sortedS (by rfl) Z_sorted (by decide +kernel) (pa_cons (pe_slice sl_list (pv 5) po_none (po_some (pv 2))) pa_nil)) pa_nil)) (pa_cons (pe_callTy call_tupleF (by rfl) Z_tuple (by decide +kernel) (pa_cons (pe_callB cr_sortedS (by rfl) Z_sorted (by decide +kernel) (pa_cons (pe_slice sl_list (pv 5) (po_some (pv 2)) po_none) pa_nil)) pa_nil)) pa_nil))))))))))))
abbrev s__law_size : Stmt := topS 37
abbrev n__law_size : List Str := ["_law_purse_here"]
theorem sc__law_size : FnScope n__law_size ["_law_purse_here"] (defScope s__law_size) := ⟨rfl, rfl, rfl, by decide +kernel, rfl, by decide +kernel, by decide +kernel⟩
theorem p__law_size {k : Nat} (c__law_next : Good P w K mg base "_law_next" ["_law_purse_here", "_law_many"] k (sp__law_next K)) (f : Addr) (cdv : Value) (Ar : Around) (outer : List PySem.Env) (s : Shared) (H : Hp) (E : XK) (hr : Room k (Ar.deeper (envOfC "_law_size" (defScope s__law_size) s.heap.objs.size f cdv))) :
    PSs (cxOf CX0 P w K mg base n__law_size "_law_size" (defScope s__law_size) f cdv Ar outer s H E).nox (defBody s__law_size) (t__law_size K) :=
  (pss_one (ps_ret (pe_ix ix_list (pe_lst (pa_cons pe_int (pa_cons pe_int (pa_cons pe_int (pa_cons pe_int (pa_cons pe_int (pa_cons pe_int (pa_cons pe_int (pa_cons pe_int (pa_cons pe_int (pa_cons pe_int pa_nil))))))))))) (pe_cg c__law_next hr (pa_cons (pv 0) (pa_cons pe_int pa_nil))) (fun _ _ => rfl))))
abbrev s__law_world : Stmt := topS 38
abbrev n__law_world : List Str := ["_law_words_here", "_law_size_here", "_law_purse_here", "_law_kinds", "_law_ties", "_law_name", "_law_tie"]
theorem sc__law_world : FnScope n__law_world ["_law_words_here", "_law_size_here", "_law_purse_here"] (defScope s__law_world) := ⟨rfl, rfl, rfl, by decide +kernel, rfl, by decide +kernel, by decide +kernel⟩
theorem p__law_world {k : Nat} (Z_tuple : mg "tuple" = none) (c__law_next : Good P w K mg base "_law_next" ["_law_purse_here", "_law_many"] k (sp__law_next K)) (f : Addr) (cdv : Value) (Ar : Around) (outer : List PySem.Env) (s : Shared) (H : Hp) (E : XK) (hr : Room k (Ar.deeper (envOfC "_law_world" (defScope s__law_world) s.heap.objs.size f cdv))) :
    PSs (cxOf CX0 P w K mg base n__law_world "_law_world" (defScope s__law_world) f cdv Ar outer s H E).nox (defBody s__law_world) (t__law_world K) :=
  (pss_cons (ps_setLc (i := 3) (own := [("_law_name", 5)]) (g := (gName 5)) (tt := tYes) rfl sc__law_world.nd rfl rfl (sw_true rfl rfl rfl (by decide +kernel)) (pi_tup (pe_ix ix_tup (pv 0) pe_int (fun _ _ => rfl))) (blkOk_by (own := [("_law_name", 5)]) (N := n__law_world) (sc := defScope s__law_world) (by decide +kernel)) (fun _ _ _ _ _ => (pg_name (i := 5) sc__law_world.nd rfl (by first | exact Or.inl rfl | exact Or.inr rfl))) (fun _ _ _ _ _ => pts_nil) (fun _ _ _ _ _ => (pe_cg c__law_next hr (pa_cons (pv 2) (pa_cons (pe_op op_shl pe_int (pv 1)) pa_nil)))))
    (pss_cons (ps_set (i := 4) sc__law_world.nd rfl (by first | exact Or.inl rfl | exact Or.inr rfl) (pe_lst pa_nil))
    (pss_cons (ps_for PassesOwn.never rfl (pi_tup (pe_ix ix_tup (pv 0) pe_int (fun _ _ => rfl))) (pg_name (i := 5) sc__law_world.nd rfl (by first | exact Or.inl rfl | exact Or.inr rfl)) (pss_cons (ps_set (i := 6) sc__law_world.nd rfl (by first | exact Or.inl rfl | exact Or.inr rfl) (pe_cg c__law_next hr (pa_cons (pv 2) (pa_cons (pe_op op_shl pe_int (pe_op op_mul (pv 1) (pv 1))) pa_nil))))
    (pss_cons (ps_if (pt_cmpR op_eq (pe_cg c__law_next hr (pa_cons (pv 2) (pa_cons pe_int pa_nil))) pe_int (nomark _)) (pss_one (ps_set (i := 6) sc__law_world.nd rfl (by first | exact Or.inl rfl | exact Or.inr rfl) (pe_op op_and (pv 6) (pe_cg c__law_next hr (pa_cons (pv 2) (pa_cons (pe_op op_shl pe_int (pe_op op_mul (pv 1) (pv 1))) pa_nil)))))) pss_nil)
    (pss_one (ps_expr (pe_bm PySem.F.plainAttrs_list PySem.F.slot_list_append PySem.F.type_list_append mt_append (pv 4) (pa_cons (pv 6) pa_nil)))))))
    (pss_one (ps_ret (pe_tup (pa_cons (pv 1) (pa_cons (pe_callTy call_tupleF (by rfl) Z_tuple (by decide +kernel) (pa_cons (pv 3) pa_nil)) (pa_cons (pe_callTy call_tupleF (by rfl) Z_tuple (by decide +kernel) (pa_cons (pv 4) pa_nil)) pa_nil)))))))))
abbrev s__law_leaf : Stmt := topS 39
abbrev n__law_leaf : List Str := ["_law_purse_here", "_law_names", "_law_some", "_law_name"]
theorem sc__law_leaf : FnScope n__law_leaf ["_law_purse_here", "_law_names"] (defScope s__law_leaf) := ⟨rfl, rfl, rfl, by decide +kernel, rfl, by decide +kernel, by decide +kernel⟩
theorem p__law_leaf {k : Nat} (Z_len : mg "len" = none) (c__law_next : Good P w K mg base "_law_next" ["_law_purse_here", "_law_many"] k (sp__law_next K)) (f : Addr) (cdv : Value) (Ar : Around) (outer : List PySem.Env) (s : Shared) (H : Hp) (E : XK) (hr : Room k (Ar.deeper (envOfC "_law_leaf" (defScope s__law_leaf) s.heap.objs.size f cdv))) :
    PSs (cxOf CX0 P w K mg base n__law_leaf "_law_leaf" (defScope s__law_leaf) f cdv Ar outer s H E).nox (defBody s__law_leaf) (t__law_leaf K) :=
  (pss_cons (ps_set (i := 2) sc__law_leaf.nd rfl (by first | exact Or.inl rfl | exact Or.inr rfl) (pe_op op_cat (pe_lc (own := [("_law_name", 3)]) (g := (gName 3)) (tt := tYes) rfl sc__law_leaf.nd (pi_tup (pv 1)) (blkOk_by (own := [("_law_name", 3)]) (N := n__law_leaf) (sc := defScope s__law_leaf) (by decide +kernel)) (fun _ _ _ _ _ => (pg_name (i := 3) sc__law_leaf.nd rfl (by first | exact Or.inl rfl | exact Or.inr rfl))) (fun _ _ _ _ _ => pts_nil) (fun _ _ _ _ _ => (pe_tup (pa_cons pe_str (pa_cons (pv 3) pa_nil))))) (pe_lst (pa_cons (pe_tup (pa_cons pe_str pa_nil)) (pa_cons (pe_tup (pa_cons pe_str pa_nil)) (pa_cons (pe_tup (pa_cons pe_str pa_nil)) pa_nil))))))
    (pss_one (ps_ret (pe_ix ix_list (pv 2) (pe_cg c__law_next hr (pa_cons (pv 0) (pa_cons (pe_callB call_len_seq (by rfl) Z_len (by decide +kernel) (pa_cons (pv 2) pa_nil)) pa_nil))) (fun _ _ => rfl)))))
abbrev s__law_expression : Stmt := topS 40
abbrev n__law_expression : List Str := ["_law_purse_here", "_law_depth", "_law_names", "_law_style", "_law_one", "_law_other"]
theorem sc__law_expression : FnScope n__law_expression ["_law_purse_here", "_law_depth", "_law_names"] (defScope s__law_expression) := ⟨rfl, rfl, rfl, by decide +kernel, rfl, by decide +kernel, by decide +kernel⟩
theorem p__law_expression {m : Nat} {k : Nat} (c__law_next : Good P w K mg base "_law_next" ["_law_purse_here", "_law_many"] k (sp__law_next K)) (c__law_leaf : Good P w K mg base "_law_leaf" ["_law_purse_here", "_law_names"] k (sp__law_leaf K)) (c__law_expression : Good P w K mg base "_law_expression" ["_law_purse_here", "_law_depth", "_law_names"] k (sp__law_expression K m)) (f : Addr) (cdv : Value) (Ar : Around) (outer : List PySem.Env) (s : Shared) (H : Hp) (E : XK) (hr : Room k (Ar.deeper (envOfC "_law_expression" (defScope s__law_expression) s.heap.objs.size f cdv))) :
    PSs (cxOf CX0 P w K mg base n__law_expression "_law_expression" (defScope s__law_expression) f cdv Ar outer s H E).nox (defBody s__law_expression) (t__law_expression K m) :=
  (pss_cons (ps_set (i := 3) sc__law_expression.nd rfl (by first | exact Or.inl rfl | exact Or.inr rfl) pe_int)
    (pss_cons (ps_if (pt_cmpR op_gt (pv 1) pe_int (nomark _)) (pss_one (ps_set (i := 3) sc__law_expression.nd rfl (by first | exact Or.inl rfl | exact Or.inr rfl) (pe_cg c__law_next hr (pa_cons (pv 0) (pa_cons pe_int pa_nil))))) pss_nil)
    (pss_cons (ps_if (pt_cmpR op_eq (pv 3) pe_int (nomark _)) (pss_one (ps_ret (pe_cg c__law_leaf hr (pa_cons (pv 0) (pa_cons (pv 2) pa_nil))))) pss_nil)
    (pss_cons (ps_set (i := 4) sc__law_expression.nd rfl (by first | exact Or.inl rfl | exact Or.inr rfl) (pe_cg c__law_expression hr (pa_cons (pv 0) (pa_cons (pe_op op_sub (pv 1) pe_int) (pa_cons (pv 2) pa_nil)))))
    (pss_cons (ps_if (pt_cmpR op_lt (pv 3) pe_int (nomark _)) (pss_one (ps_ret (pe_tup (pa_cons (pe_ix ix_list (pe_lst (pa_cons pe_str (pa_cons pe_str pa_nil))) (pe_op op_sub (pv 3) pe_int) (fun _ _ => rfl)) (pa_cons (pv 4) pa_nil))))) pss_nil)
    (pss_cons (ps_set (i := 5) sc__law_expression.nd rfl (by first | exact Or.inl rfl | exact Or.inr rfl) (pe_cg c__law_expression hr (pa_cons (pv 0) (pa_cons (pe_op op_sub (pv 1) pe_int) (pa_cons (pv 2) pa_nil)))))
    (pss_one (ps_ret (pe_tup (pa_cons (pe_ix ix_list (pe_lst (pa_cons pe_str (pa_cons pe_str (pa_cons pe_str (pa_cons pe_str (pa_cons pe_str (pa_cons pe_str pa_nil))))))) (pe_op op_sub (pv 3) pe_int) (fun _ _ => rfl)) (pa_cons (pv 4) (pa_cons (pv 5) pa_nil))))))))))))
abbrev s__law_fact : Stmt := topS 41
abbrev n__law_fact : List Str := ["_law_purse_here", "_law_names", "_law_style", "_law_one", "_law_many"]
theorem sc__law_fact : FnScope n__law_fact ["_law_purse_here", "_law_names"] (defScope s__law_fact) := ⟨rfl, rfl, rfl, by decide +kernel, rfl, by decide +kernel, by decide +kernel⟩
theorem p__law_fact {k : Nat} (c__law_next : Good P w K mg base "_law_next" ["_law_purse_here", "_law_many"] k (sp__law_next K)) (c__law_expression : Good P w K mg base "_law_expression" ["_law_purse_here", "_law_depth", "_law_names"] k (sp__law_expression K 9)) (f : Addr) (cdv : Value) (Ar : Around) (outer : List PySem.Env) (s : Shared) (H : Hp) (E : XK) (hr : Room k (Ar.deeper (envOfC "_law_fact" (defScope s__law_fact) s.heap.objs.size f cdv))) :
    PSs (cxOf CX0 P w K mg base n__law_fact "_law_fact" (defScope s__law_fact) f cdv Ar outer s H E).nox (defBody s__law_fact) (t__law_fact K) :=
  (pss_cons (ps_set (i := 2) sc__law_fact.nd rfl (by first | exact Or.inl rfl | exact Or.inr rfl) (pe_cg c__law_next hr (pa_cons (pv 0) (pa_cons pe_int pa_nil))))
    (pss_cons (ps_set (i := 3) sc__law_fact.nd rfl (by first | exact Or.inl rfl | exact Or.inr rfl) (pe_cg c__law_expression hr (pa_cons (pv 0) (pa_cons (pe_cg c__law_next hr (pa_cons (pv 0) (pa_cons pe_int pa_nil))) (pa_cons (pv 1) pa_nil)))))
    (pss_cons (ps_if (pt_cmpR op_lt (pv 2) pe_int (nomark _)) (pss_one (ps_ret (pe_tup (pa_cons (pe_ix ix_list (pe_lst (pa_cons pe_str (pa_cons pe_str pa_nil))) (pv 2) (fun _ _ => rfl)) (pa_cons (pv 3) (pa_cons (pe_cg c__law_expression hr (pa_cons (pv 0) (pa_cons (pe_cg c__law_next hr (pa_cons (pv 0) (pa_cons pe_int pa_nil))) (pa_cons (pv 1) pa_nil)))) pa_nil)))))) pss_nil)
    (pss_cons (ps_if (pt_cmpR op_lt (pv 2) pe_int (nomark _)) (pss_one (ps_ret (pe_tup (pa_cons (pe_ix ix_list (pe_lst (pa_cons pe_str (pa_cons pe_str pa_nil))) (pe_op op_sub (pv 2) pe_int) (fun _ _ => rfl)) (pa_cons (pv 3) pa_nil))))) pss_nil)
    (pss_cons (ps_set (i := 4) sc__law_fact.nd rfl (by first | exact Or.inl rfl | exact Or.inr rfl) (pe_cg c__law_next hr (pa_cons (pv 0) (pa_cons (pe_ix ix_list (pe_lst (pa_cons pe_int (pa_cons pe_int (pa_cons pe_int pa_nil)))) (pe_cg c__law_next hr (pa_cons (pv 0) (pa_cons pe_int pa_nil))) (fun _ _ => rfl)) pa_nil))))
    (pss_one (ps_ret (pe_tup (pa_cons (pe_ix ix_list (pe_lst (pa_cons pe_str (pa_cons pe_str (pa_cons pe_str (pa_cons pe_str pa_nil))))) (pe_op op_sub (pv 2) pe_int) (fun _ _ => rfl)) (pa_cons (pv 4) (pa_cons (pv 3) pa_nil)))))))))))
abbrev s__law_saying : Stmt := topS 42
abbrev n__law_saying : List Str := ["_law_purse_here", "_law_depth", "_law_names", "_law_style", "_law_one"]
theorem sc__law_saying : FnScope n__law_saying ["_law_purse_here", "_law_depth", "_law_names"] (defScope s__law_saying) := ⟨rfl, rfl, rfl, by decide +kernel, rfl, by decide +kernel, by decide +kernel⟩
theorem p__law_saying {m : Nat} {k : Nat} (c__law_next : Good P w K mg base "_law_next" ["_law_purse_here", "_law_many"] k (sp__law_next K)) (c__law_fact : Good P w K mg base "_law_fact" ["_law_purse_here", "_law_names"] k (sp__law_fact K)) (c__law_saying : Good P w K mg base "_law_saying" ["_law_purse_here", "_law_depth", "_law_names"] k (sp__law_saying K m)) (f : Addr) (cdv : Value) (Ar : Around) (outer : List PySem.Env) (s : Shared) (H : Hp) (E : XK) (hr : Room k (Ar.deeper (envOfC "_law_saying" (defScope s__law_saying) s.heap.objs.size f cdv))) :
    PSs (cxOf CX0 P w K mg base n__law_saying "_law_saying" (defScope s__law_saying) f cdv Ar outer s H E).nox (defBody s__law_saying) (t__law_saying K m) :=
  (pss_cons (ps_set (i := 3) sc__law_saying.nd rfl (by first | exact Or.inl rfl | exact Or.inr rfl) pe_int)
    (pss_cons (ps_if (pt_cmpR op_gt (pv 1) pe_int (nomark _)) (pss_one (ps_set (i := 3) sc__law_saying.nd rfl (by first | exact Or.inl rfl | exact Or.inr rfl) (pe_cg c__law_next hr (pa_cons (pv 0) (pa_cons pe_int pa_nil))))) pss_nil)
    (pss_cons (ps_if (pt_cmpR op_lt (pv 3) pe_int (nomark _)) (pss_one (ps_ret (pe_cg c__law_fact hr (pa_cons (pv 0) (pa_cons (pv 2) pa_nil))))) pss_nil)
    (pss_cons (ps_set (i := 4) sc__law_saying.nd rfl (by first | exact Or.inl rfl | exact Or.inr rfl) (pe_cg c__law_saying hr (pa_cons (pv 0) (pa_cons (pe_op op_sub (pv 1) pe_int) (pa_cons (pv 2) pa_nil)))))
    (pss_cons (ps_if (pt_cmpR op_eq (pv 3) pe_int (nomark _)) (pss_one (ps_ret (pe_tup (pa_cons pe_str (pa_cons (pv 4) pa_nil))))) pss_nil)
    (pss_one (ps_ret (pe_tup (pa_cons (pe_ix ix_list (pe_lst (pa_cons pe_str (pa_cons pe_str pa_nil))) (pe_op op_sub (pv 3) pe_int) (fun _ _ => rfl)) (pa_cons (pv 4) (pa_cons (pe_cg c__law_saying hr (pa_cons (pv 0) (pa_cons (pe_op op_sub (pv 1) pe_int) (pa_cons (pv 2) pa_nil)))) pa_nil)))))))))))
end
end Wf


set_option maxHeartbeats 4000000

/-! The derivations: printed by gen.py. -/
namespace Wf
open PySem PySem.Spec PyProof.Rows L2
section
variable {P : Program} {w : World} {K : PySem.W.Frag} {mg : Str → Option Value} {base : Heap}
abbrev s__law_grid : Stmt := topS 43
abbrev n__law_grid : List Str := ["_law_size_here", "_law_tie", "_law_a", "_law_b"]
theorem sc__law_grid : FnScope n__law_grid ["_law_size_here", "_law_tie"] (defScope s__law_grid) := ⟨rfl, rfl, rfl, by decide +kernel, rfl, by decide +kernel, by decide +kernel⟩
theorem p__law_grid {k : Nat} (Z_range : mg "range" = none) (f : Addr) (cdv : Value) (Ar : Around) (outer : List PySem.Env) (s : Shared) (H : Hp) (E : XK) (hr : Room k (Ar.deeper (envOfC "_law_grid" (defScope s__law_grid) s.heap.objs.size f cdv))) :
    PSs (cxOf CX0 P w K mg base n__law_grid "_law_grid" (defScope s__law_grid) f cdv Ar outer s H E).nox (defBody s__law_grid) (t__law_grid K) :=
  (pss_one (ps_ret (pe_lc (own := [("_law_a", 2)]) (g := (gName 2)) (tt := tYes) rfl sc__law_grid.nd (pi_range1 (by rfl) Z_range (pa_cons (pv 0) pa_nil)) (blkOk_by (own := [("_law_a", 2)]) (N := n__law_grid) (sc := defScope s__law_grid) (by decide +kernel)) (fun _ _ _ _ _ => (pg_name (i := 2) sc__law_grid.nd rfl (by first | exact Or.inl rfl | exact Or.inr rfl))) (fun _ _ _ _ _ => pts_nil) (fun _ _ _ _ _ => (pe_lc (own := [("_law_b", 3)]) (g := (gName 3)) (tt := tYes) rfl sc__law_grid.nd (pi_range1 (by rfl) Z_range (pa_cons (pv 0) pa_nil)) (blkOk_by (own := [("_law_b", 3)]) (by kernel_rfl)) (fun _ _ _ _ _ => (pg_name (i := 3) sc__law_grid.nd rfl (by first | exact Or.inl rfl | exact Or.inr rfl))) (fun _ _ _ _ _ => pts_nil) (fun _ _ _ _ _ => (pe_op op_and (pe_op op_shr (pv 1) (pe_op op_add (pe_op op_mul (pv 2) (pv 0)) (pv 3))) pe_int)))))))
abbrev s__law_named : Stmt := topS 44
abbrev n__law_named : List Str := ["_law_words_here", "_law_world_here", "_law_name", "_law_size_here", "_law_kind", "_law_a", "_law_b"]
theorem sc__law_named : FnScope n__law_named ["_law_words_here", "_law_world_here", "_law_name"] (defScope s__law_named) := ⟨rfl, rfl, rfl, by decide +kernel, rfl, by decide +kernel, by decide +kernel⟩
theorem p__law_named {k : Nat} (Z_range : mg "range" = none) (Z_int : mg "int" = none) (c__law_grid : Good P w K mg base "_law_grid" ["_law_size_here", "_law_tie"] k (sp__law_grid K)) (f : Addr) (cdv : Value) (Ar : Around) (outer : List PySem.Env) (s : Shared) (H : Hp) (E : XK) (hr : Room k (Ar.deeper (envOfC "_law_named" (defScope s__law_named) s.heap.objs.size f cdv))) :
    PSs (cxOf CX0 P w K mg base n__law_named "_law_named" (defScope s__law_named) f cdv Ar outer s H E).nox (defBody s__law_named) (t__law_named K) :=
  (pss_cons (ps_set (i := 3) sc__law_named.nd rfl (by first | exact Or.inl rfl | exact Or.inr rfl) (pe_ix ix_tup (pv 1) pe_int (fun _ _ => rfl)))
    (pss_cons (ps_if (pt_cmpR op_in_seq (pv 2) (pe_ix ix_tup (pv 0) pe_int (fun _ _ => rfl)) (by rfl)) (pss_cons (ps_set (i := 4) sc__law_named.nd rfl (by first | exact Or.inl rfl | exact Or.inr rfl) (pe_ix ix_tup (pe_ix ix_tup (pv 1) pe_int (fun _ _ => rfl)) (pe_tix (pe_ix ix_tup (pv 0) pe_int (fun _ _ => rfl)) (pa_cons (pv 2) pa_nil)) (fun _ _ => rfl)))
    (pss_one (ps_ret (pe_lc (own := [("_law_a", 5)]) (g := (gName 5)) (tt := tYes) rfl sc__law_named.nd (pi_range1 (by rfl) Z_range (pa_cons (pv 3) pa_nil)) (blkOk_by (own := [("_law_a", 5)]) (N := n__law_named) (sc := defScope s__law_named) (by decide +kernel)) (fun _ _ _ _ _ => (pg_name (i := 5) sc__law_named.nd rfl (by first | exact Or.inl rfl | exact Or.inr rfl))) (fun _ _ _ _ _ => pts_nil) (fun _ _ _ _ _ => (pe_lc (own := [("_law_b", 6)]) (g := (gName 6)) (tt := tYes) rfl sc__law_named.nd (pi_range1 (by rfl) Z_range (pa_cons (pv 3) pa_nil)) (blkOk_by (own := [("_law_b", 6)]) (by kernel_rfl)) (fun _ _ _ _ _ => (pg_name (i := 6) sc__law_named.nd rfl (by first | exact Or.inl rfl | exact Or.inr rfl))) (fun _ _ _ _ _ => pts_nil) (fun _ _ _ _ _ => (pe_op op_and (pe_op op_shr (pv 4) (pv 5)) (pe_callTy call_int1 (by rfl) Z_int (by decide +kernel) (pa_cons (pe_cmpR op_eq (pv 5) (pv 6) (nomark _)) pa_nil)))))))))) pss_nil)
    (pss_one (ps_ret (pe_cg c__law_grid hr (pa_cons (pv 3) (pa_cons (pe_ix ix_tup (pe_ix ix_tup (pv 1) pe_int (fun _ _ => rfl)) (pe_tix (pe_ix ix_tup (pv 0) pe_int (fun _ _ => rfl)) (pa_cons (pv 2) pa_nil)) (fun _ _ => rfl)) pa_nil)))))))
abbrev s__law_closed : Stmt := topS 45
abbrev n__law_closed : List Str := ["_law_grid_here", "_law_answer", "_law_k", "_law_row", "_law_a", "_law_b"]
theorem sc__law_closed : FnScope n__law_closed ["_law_grid_here"] (defScope s__law_closed) := ⟨rfl, rfl, rfl, by decide +kernel, rfl, by decide +kernel, by decide +kernel⟩
theorem p__law_closed {k : Nat} (Z_list : mg "list" = none) (Z_len : mg "len" = none) (Z_range : mg "range" = none) (f : Addr) (cdv : Value) (Ar : Around) (outer : List PySem.Env) (s : Shared) (H : Hp) (E : XK) (hr : Room k (Ar.deeper (envOfC "_law_closed" (defScope s__law_closed) s.heap.objs.size f cdv))) :
    PSs (cxOf CX0 P w K mg base n__law_closed "_law_closed" (defScope s__law_closed) f cdv Ar outer s H E).nox (defBody s__law_closed) (t__law_closed K) :=
  (pss_cons (ps_set (i := 1) sc__law_closed.nd rfl (by first | exact Or.inl rfl | exact Or.inr rfl) (pe_lc (own := [("_law_row", 3)]) (g := (gName 3)) (tt := tYes) rfl sc__law_closed.nd (pi_list (pv 0)) (blkOk_by (own := [("_law_row", 3)]) (N := n__law_closed) (sc := defScope s__law_closed) (by decide +kernel)) (fun _ _ _ _ _ => (pg_name (i := 3) sc__law_closed.nd rfl (by first | exact Or.inl rfl | exact Or.inr rfl))) (fun _ _ _ _ _ => pts_nil) (fun _ _ _ _ _ => (pe_callTy call_list_of (by rfl) Z_list (by decide +kernel) (pa_cons (pv 3) pa_nil)))))
    (pss_cons (ps_for PassesOwn.never rfl (pi_range1 (by rfl) Z_range (pa_cons (pe_callB call_len_seq (by rfl) Z_len (by decide +kernel) (pa_cons (pv 0) pa_nil)) pa_nil)) (pg_name (i := 2) sc__law_closed.nd rfl (by first | exact Or.inl rfl | exact Or.inr rfl)) (pss_one (ps_set (i := 1) sc__law_closed.nd rfl (by first | exact Or.inl rfl | exact Or.inr rfl) (pe_lc (own := [("_law_a", 4)]) (g := (gName 4)) (tt := tYes) rfl sc__law_closed.nd (pi_range1 (by rfl) Z_range (pa_cons (pe_callB call_len_seq (by rfl) Z_len (by decide +kernel) (pa_cons (pv 0) pa_nil)) pa_nil)) (blkOk_by (own := [("_law_a", 4)]) (N := n__law_closed) (sc := defScope s__law_closed) (by decide +kernel)) (fun _ _ _ _ _ => (pg_name (i := 4) sc__law_closed.nd rfl (by first | exact Or.inl rfl | exact Or.inr rfl))) (fun _ _ _ _ _ => pts_nil) (fun _ _ _ _ _ => (pe_lc (own := [("_law_b", 5)]) (g := (gName 5)) (tt := tYes) rfl sc__law_closed.nd (pi_range1 (by rfl) Z_range (pa_cons (pe_callB call_len_seq (by rfl) Z_len (by decide +kernel) (pa_cons (pv 0) pa_nil)) pa_nil)) (blkOk_by (own := [("_law_b", 5)]) (by kernel_rfl)) (fun _ _ _ _ _ => (pg_name (i := 5) sc__law_closed.nd rfl (by first | exact Or.inl rfl | exact Or.inr rfl))) (fun _ _ _ _ _ => pts_nil) (fun _ _ _ _ _ => (pe_op op_or (pe_ix ix_list (pe_ix ix_list (pv 1) (pv 4) (fun _ _ => rfl)) (pv 5) (fun _ _ => rfl)) (pe_op op_and (pe_ix ix_list (pe_ix ix_list (pv 1) (pv 4) (fun _ _ => rfl)) (pv 2) (fun _ _ => rfl)) (pe_ix ix_list (pe_ix ix_list (pv 1) (pv 2) (fun _ _ => rfl)) (pv 5) (fun _ _ => rfl)))))))))))
    (pss_one (ps_ret (pv 1)))))
abbrev s__law_two : Stmt := topS 46
abbrev n__law_two : List Str := ["_law_word", "_law_one", "_law_other", "_law_many", "_law_a", "_law_b", "_law_k"]
theorem sc__law_two : FnScope n__law_two ["_law_word", "_law_one", "_law_other"] (defScope s__law_two) := ⟨rfl, rfl, rfl, by decide +kernel, rfl, by decide +kernel, by decide +kernel⟩
theorem p__law_two {k : Nat} (Z_len : mg "len" = none) (Z_range : mg "range" = none) (Z_max : mg "max" = none) (f : Addr) (cdv : Value) (Ar : Around) (outer : List PySem.Env) (s : Shared) (H : Hp) (E : XK) (hr : Room k (Ar.deeper (envOfC "_law_two" (defScope s__law_two) s.heap.objs.size f cdv))) :
    PSs (cxOf CX0 P w K mg base n__law_two "_law_two" (defScope s__law_two) f cdv Ar outer s H E).nox (defBody s__law_two) (t__law_two K) :=
  (pss_cons (ps_set (i := 3) sc__law_two.nd rfl (by first | exact Or.inl rfl | exact Or.inr rfl) (pe_callB call_len_seq (by rfl) Z_len (by decide +kernel) (pa_cons (pv 1) pa_nil)))
    (pss_cons (ps_if (pt_cmpR op_eq (pv 0) pe_str (nomark _)) (pss_one (ps_ret (pe_lc (own := [("_law_a", 4)]) (g := (gName 4)) (tt := tYes) rfl sc__law_two.nd (pi_range1 (by rfl) Z_range (pa_cons (pv 3) pa_nil)) (blkOk_by (own := [("_law_a", 4)]) (N := n__law_two) (sc := defScope s__law_two) (by decide +kernel)) (fun _ _ _ _ _ => (pg_name (i := 4) sc__law_two.nd rfl (by first | exact Or.inl rfl | exact Or.inr rfl))) (fun _ _ _ _ _ => pts_nil) (fun _ _ _ _ _ => (pe_lc (own := [("_law_b", 5)]) (g := (gName 5)) (tt := tYes) rfl sc__law_two.nd (pi_range1 (by rfl) Z_range (pa_cons (pv 3) pa_nil)) (blkOk_by (own := [("_law_b", 5)]) (by kernel_rfl)) (fun _ _ _ _ _ => (pg_name (i := 5) sc__law_two.nd rfl (by first | exact Or.inl rfl | exact Or.inr rfl))) (fun _ _ _ _ _ => pts_nil) (fun _ _ _ _ _ => (pe_callB (cr_max rfl) (by rfl) Z_max (by decide +kernel) (pa_cons (pe_lc (own := [("_law_k", 6)]) (g := (gName 6)) (tt := tYes) rfl sc__law_two.nd (pi_range1 (by rfl) Z_range (pa_cons (pv 3) pa_nil)) (blkOk_by (own := [("_law_k", 6)]) (by kernel_rfl)) (fun _ _ _ _ _ => (pg_name (i := 6) sc__law_two.nd rfl (by first | exact Or.inl rfl | exact Or.inr rfl))) (fun _ _ _ _ _ => pts_nil) (fun _ _ _ _ _ => (pe_op op_and (pe_ix ix_list (pe_ix ix_list (pv 1) (pv 4) (fun _ _ => rfl)) (pv 6) (fun _ _ => rfl)) (pe_ix ix_list (pe_ix ix_list (pv 2) (pv 6) (fun _ _ => rfl)) (pv 5) (fun _ _ => rfl))))) pa_nil)))))))) pss_nil)
    (pss_cons (ps_if (pt_cmpR op_eq (pv 0) pe_str (nomark _)) (pss_one (ps_ret (pe_lc (own := [("_law_a", 4)]) (g := (gName 4)) (tt := tYes) rfl sc__law_two.nd (pi_range1 (by rfl) Z_range (pa_cons (pv 3) pa_nil)) (blkOk_by (own := [("_law_a", 4)]) (N := n__law_two) (sc := defScope s__law_two) (by decide +kernel)) (fun _ _ _ _ _ => (pg_name (i := 4) sc__law_two.nd rfl (by first | exact Or.inl rfl | exact Or.inr rfl))) (fun _ _ _ _ _ => pts_nil) (fun _ _ _ _ _ => (pe_lc (own := [("_law_b", 5)]) (g := (gName 5)) (tt := tYes) rfl sc__law_two.nd (pi_range1 (by rfl) Z_range (pa_cons (pv 3) pa_nil)) (blkOk_by (own := [("_law_b", 5)]) (by kernel_rfl)) (fun _ _ _ _ _ => (pg_name (i := 5) sc__law_two.nd rfl (by first | exact Or.inl rfl | exact Or.inr rfl))) (fun _ _ _ _ _ => pts_nil) (fun _ _ _ _ _ => (pe_op op_or (pe_ix ix_list (pe_ix ix_list (pv 1) (pv 4) (fun _ _ => rfl)) (pv 5) (fun _ _ => rfl)) (pe_ix ix_list (pe_ix ix_list (pv 2) (pv 4) (fun _ _ => rfl)) (pv 5) (fun _ _ => rfl))))))))) pss_nil)
    (pss_cons (ps_if (pt_cmpR op_eq (pv 0) pe_str (nomark _)) (pss_one (ps_ret (pe_lc (own := [("_law_a", 4)]) (g := (gName 4)) (tt := tYes) rfl sc__law_two.nd (pi_range1 (by rfl) Z_range (pa_cons (pv 3) pa_nil)) (blkOk_by (own := [("_law_a", 4)]) (N := n__law_two) (sc := defScope s__law_two) (by decide +kernel)) (fun _ _ _ _ _ => (pg_name (i := 4) sc__law_two.nd rfl (by first | exact Or.inl rfl | exact Or.inr rfl))) (fun _ _ _ _ _ => pts_nil) (fun _ _ _ _ _ => (pe_lc (own := [("_law_b", 5)]) (g := (gName 5)) (tt := tYes) rfl sc__law_two.nd (pi_range1 (by rfl) Z_range (pa_cons (pv 3) pa_nil)) (blkOk_by (own := [("_law_b", 5)]) (by kernel_rfl)) (fun _ _ _ _ _ => (pg_name (i := 5) sc__law_two.nd rfl (by first | exact Or.inl rfl | exact Or.inr rfl))) (fun _ _ _ _ _ => pts_nil) (fun _ _ _ _ _ => (pe_op op_and (pe_ix ix_list (pe_ix ix_list (pv 1) (pv 4) (fun _ _ => rfl)) (pv 5) (fun _ _ => rfl)) (pe_ix ix_list (pe_ix ix_list (pv 2) (pv 4) (fun _ _ => rfl)) (pv 5) (fun _ _ => rfl))))))))) pss_nil)
    (pss_one (ps_ret (pe_lc (own := [("_law_a", 4)]) (g := (gName 4)) (tt := tYes) rfl sc__law_two.nd (pi_range1 (by rfl) Z_range (pa_cons (pv 3) pa_nil)) (blkOk_by (own := [("_law_a", 4)]) (N := n__law_two) (sc := defScope s__law_two) (by decide +kernel)) (fun _ _ _ _ _ => (pg_name (i := 4) sc__law_two.nd rfl (by first | exact Or.inl rfl | exact Or.inr rfl))) (fun _ _ _ _ _ => pts_nil) (fun _ _ _ _ _ => (pe_lc (own := [("_law_b", 5)]) (g := (gName 5)) (tt := tYes) rfl sc__law_two.nd (pi_range1 (by rfl) Z_range (pa_cons (pv 3) pa_nil)) (blkOk_by (own := [("_law_b", 5)]) (by kernel_rfl)) (fun _ _ _ _ _ => (pg_name (i := 5) sc__law_two.nd rfl (by first | exact Or.inl rfl | exact Or.inr rfl))) (fun _ _ _ _ _ => pts_nil) (fun _ _ _ _ _ => (pe_op op_and (pe_ix ix_list (pe_ix ix_list (pv 1) (pv 4) (fun _ _ => rfl)) (pv 5) (fun _ _ => rfl)) (pe_op op_sub pe_int (pe_ix ix_list (pe_ix ix_list (pv 2) (pv 4) (fun _ _ => rfl)) (pv 5) (fun _ _ => rfl))))))))))))))
abbrev s__law_value : Stmt := topS 47
abbrev n__law_value : List Str := ["_law_words_here", "_law_world_here", "_law_expression_here", "_law_size_here", "_law_word", "_law_one", "_law_a", "_law_b"]
theorem sc__law_value : FnScope n__law_value ["_law_words_here", "_law_world_here", "_law_expression_here"] (defScope s__law_value) := ⟨rfl, rfl, rfl, by decide +kernel, rfl, by decide +kernel, by decide +kernel⟩
theorem p__law_value {m : Nat} {k : Nat} (Z_len : mg "len" = none) (Z_range : mg "range" = none) (Z_int : mg "int" = none) (c__law_named : Good P w K mg base "_law_named" ["_law_words_here", "_law_world_here", "_law_name"] k (sp__law_named K)) (c__law_value : Good P w K mg base "_law_value" ["_law_words_here", "_law_world_here", "_law_expression_here"] k (sp__law_value K m)) (c__law_closed : Good P w K mg base "_law_closed" ["_law_grid_here"] k (sp__law_closed K)) (c__law_two : Good P w K mg base "_law_two" ["_law_word", "_law_one", "_law_other"] k (sp__law_two K)) (f : Addr) (cdv : Value) (Ar : Around) (outer : List PySem.Env) (s : Shared) (H : Hp) (E : XK) (hr : Room k (Ar.deeper (envOfC "_law_value" (defScope s__law_value) s.heap.objs.size f cdv))) :
    PSs (cxOf CX0 P w K mg base n__law_value "_law_value" (defScope s__law_value) f cdv Ar outer s H E).nox (defBody s__law_value) (t__law_value K m) :=
  (pss_cons (ps_set (i := 3) sc__law_value.nd rfl (by first | exact Or.inl rfl | exact Or.inr rfl) (pe_ix ix_tup (pv 1) pe_int (fun _ _ => rfl)))
    (pss_cons (ps_set (i := 4) sc__law_value.nd rfl (by first | exact Or.inl rfl | exact Or.inr rfl) (pe_ix ix_tup (pv 2) pe_int (fun _ _ => rfl)))
    (pss_cons (ps_if (pt_cmpR op_eq (pv 4) pe_str (nomark _)) (pss_one (ps_ret (pe_cg c__law_named hr (pa_cons (pv 0) (pa_cons (pv 1) (pa_cons (pe_ix ix_tup (pv 2) pe_int (fun _ _ => rfl)) pa_nil)))))) pss_nil)
    (pss_cons (ps_if (pt_cmpR op_eq (pe_callB call_len_seq (by rfl) Z_len (by decide +kernel) (pa_cons (pv 2) pa_nil)) pe_int (nomark _)) (pss_one (ps_ret (pe_lc (own := [("_law_a", 6)]) (g := (gName 6)) (tt := tYes) rfl sc__law_value.nd (pi_range1 (by rfl) Z_range (pa_cons (pv 3) pa_nil)) (blkOk_by (own := [("_law_a", 6)]) (N := n__law_value) (sc := defScope s__law_value) (by decide +kernel)) (fun _ _ _ _ _ => (pg_name (i := 6) sc__law_value.nd rfl (by first | exact Or.inl rfl | exact Or.inr rfl))) (fun _ _ _ _ _ => pts_nil) (fun _ _ _ _ _ => (pe_lc (own := [("_law_b", 7)]) (g := (gName 7)) (tt := tYes) rfl sc__law_value.nd (pi_range1 (by rfl) Z_range (pa_cons (pv 3) pa_nil)) (blkOk_by (own := [("_law_b", 7)]) (by kernel_rfl)) (fun _ _ _ _ _ => (pg_name (i := 7) sc__law_value.nd rfl (by first | exact Or.inl rfl | exact Or.inr rfl))) (fun _ _ _ _ _ => pts_nil) (fun _ _ _ _ _ => (pe_callTy call_int1 (by rfl) Z_int (by decide +kernel) (pa_cons (pe_or (pe_cmpR op_eq (pv 4) pe_str (nomark _)) (pe_one (pe_and (pe_cmpR op_eq (pv 4) pe_str (nomark _)) (pe_one (pe_cmpR op_eq (pv 6) (pv 7) (nomark _)))))) pa_nil)))))))) pss_nil)
    (pss_cons (ps_set (i := 5) sc__law_value.nd rfl (by first | exact Or.inl rfl | exact Or.inr rfl) (pe_cg c__law_value hr (pa_cons (pv 0) (pa_cons (pv 1) (pa_cons (pe_ix ix_tup (pv 2) pe_int (fun _ _ => rfl)) pa_nil)))))
    (pss_cons (ps_if (pt_cmpR op_eq (pv 4) pe_str (nomark _)) (pss_one (ps_ret (pe_lc (own := [("_law_a", 6)]) (g := (gName 6)) (tt := tYes) rfl sc__law_value.nd (pi_range1 (by rfl) Z_range (pa_cons (pv 3) pa_nil)) (blkOk_by (own := [("_law_a", 6)]) (N := n__law_value) (sc := defScope s__law_value) (by decide +kernel)) (fun _ _ _ _ _ => (pg_name (i := 6) sc__law_value.nd rfl (by first | exact Or.inl rfl | exact Or.inr rfl))) (fun _ _ _ _ _ => pts_nil) (fun _ _ _ _ _ => (pe_lc (own := [("_law_b", 7)]) (g := (gName 7)) (tt := tYes) rfl sc__law_value.nd (pi_range1 (by rfl) Z_range (pa_cons (pv 3) pa_nil)) (blkOk_by (own := [("_law_b", 7)]) (by kernel_rfl)) (fun _ _ _ _ _ => (pg_name (i := 7) sc__law_value.nd rfl (by first | exact Or.inl rfl | exact Or.inr rfl))) (fun _ _ _ _ _ => pts_nil) (fun _ _ _ _ _ => (pe_ix ix_list (pe_ix ix_list (pv 5) (pv 7) (fun _ _ => rfl)) (pv 6) (fun _ _ => rfl)))))))) pss_nil)
    (pss_cons (ps_if (pt_cmpR op_eq (pv 4) pe_str (nomark _)) (pss_one (ps_ret (pe_cg c__law_closed hr (pa_cons (pv 5) pa_nil)))) pss_nil)
    (pss_one (ps_ret (pe_cg c__law_two hr (pa_cons (pv 4) (pa_cons (pv 5) (pa_cons (pe_cg c__law_value hr (pa_cons (pv 0) (pa_cons (pv 1) (pa_cons (pe_ix ix_tup (pv 2) pe_int (fun _ _ => rfl)) pa_nil)))) pa_nil)))))))))))))
abbrev s__law_counts : Stmt := topS 48
abbrev n__law_counts : List Str := ["_law_grid_here", "_law_row"]
theorem sc__law_counts : FnScope n__law_counts ["_law_grid_here"] (defScope s__law_counts) := ⟨rfl, rfl, rfl, by decide +kernel, rfl, by decide +kernel, by decide +kernel⟩
theorem p__law_counts {k : Nat} (Z_sum : mg "sum" = none) (f : Addr) (cdv : Value) (Ar : Around) (outer : List PySem.Env) (s : Shared) (H : Hp) (E : XK) (hr : Room k (Ar.deeper (envOfC "_law_counts" (defScope s__law_counts) s.heap.objs.size f cdv))) :
    PSs (cxOf CX0 P w K mg base n__law_counts "_law_counts" (defScope s__law_counts) f cdv Ar outer s H E).nox (defBody s__law_counts) (t__law_counts K) :=
  (pss_one (ps_ret (pe_lc (own := [("_law_row", 1)]) (g := (gName 1)) (tt := tYes) rfl sc__law_counts.nd (pi_list (pv 0)) (blkOk_by (own := [("_law_row", 1)]) (N := n__law_counts) (sc := defScope s__law_counts) (by decide +kernel)) (fun _ _ _ _ _ => (pg_name (i := 1) sc__law_counts.nd rfl (by first | exact Or.inl rfl | exact Or.inr rfl))) (fun _ _ _ _ _ => pts_nil) (fun _ _ _ _ _ => (pe_callB (cr_sum rfl) (by rfl) Z_sum (by decide +kernel) (pa_cons (pv 1) pa_nil))))))
abbrev s__law_fact_kept : Stmt := topS 49
abbrev n__law_fact_kept : List Str := ["_law_words_here", "_law_world_here", "_law_saying_here", "_law_word", "_law_counts_here", "_law_one", "_law_other", "_law_many"]
theorem sc__law_fact_kept : FnScope n__law_fact_kept ["_law_words_here", "_law_world_here", "_law_saying_here"] (defScope s__law_fact_kept) := ⟨rfl, rfl, rfl, by decide +kernel, rfl, by decide +kernel, by decide +kernel⟩
theorem p__law_fact_kept {k : Nat} (Z_sum : mg "sum" = none) (Z_all : mg "all" = none) (c__law_value : Good P w K mg base "_law_value" ["_law_words_here", "_law_world_here", "_law_expression_here"] k (sp__law_value K 9)) (c__law_two : Good P w K mg base "_law_two" ["_law_word", "_law_one", "_law_other"] k (sp__law_two K)) (c__law_counts : Good P w K mg base "_law_counts" ["_law_grid_here"] k (sp__law_counts K)) (f : Addr) (cdv : Value) (Ar : Around) (outer : List PySem.Env) (s : Shared) (H : Hp) (E : XK) (hr : Room k (Ar.deeper (envOfC "_law_fact_kept" (defScope s__law_fact_kept) s.heap.objs.size f cdv))) :
    PSs (cxOf CX0 P w K mg base n__law_fact_kept "_law_fact_kept" (defScope s__law_fact_kept) f cdv Ar outer s H E).nox (defBody s__law_fact_kept) (t__law_fact_kept K) :=
  (pss_cons (ps_set (i := 3) sc__law_fact_kept.nd rfl (by first | exact Or.inl rfl | exact Or.inr rfl) (pe_ix ix_tup (pv 2) pe_int (fun _ _ => rfl)))
    (pss_cons (ps_if (pt_cmpR op_in_seq (pv 3) (pe_tup (pa_cons pe_str (pa_cons pe_str pa_nil))) (by rfl)) (pss_cons (ps_set (i := 5) sc__law_fact_kept.nd rfl (by first | exact Or.inl rfl | exact Or.inr rfl) (pe_cg c__law_value hr (pa_cons (pv 0) (pa_cons (pv 1) (pa_cons (pe_ix ix_tup (pv 2) pe_int (fun _ _ => rfl)) pa_nil)))))
    (pss_cons (ps_set (i := 6) sc__law_fact_kept.nd rfl (by first | exact Or.inl rfl | exact Or.inr rfl) (pe_cg c__law_value hr (pa_cons (pv 0) (pa_cons (pv 1) (pa_cons (pe_ix ix_tup (pv 2) pe_int (fun _ _ => rfl)) pa_nil)))))
    (pss_cons (ps_if (pt_cmpR op_eq (pv 3) pe_str (nomark _)) (pss_one (ps_ret (pe_cmpR (op_eqD hr.units) (pv 5) (pv 6) (nomark _)))) pss_nil)
    (pss_one (ps_ret (pe_cmpR (op_eqD hr.units) (pe_cg c__law_two hr (pa_cons pe_str (pa_cons (pv 5) (pa_cons (pv 6) pa_nil)))) (pv 5) (nomark _))))))) pss_nil)
    (pss_cons (ps_set (i := 4) sc__law_fact_kept.nd rfl (by first | exact Or.inl rfl | exact Or.inr rfl) (pe_cg c__law_counts hr (pa_cons (pe_cg c__law_value hr (pa_cons (pv 0) (pa_cons (pv 1) (pa_cons (pe_ix ix_tup (pv 2) (pe_un un_neg pe_int) (fun _ _ => rfl)) pa_nil)))) pa_nil)))
    (pss_cons (ps_if (pt_cmpR op_in_seq (pv 3) (pe_tup (pa_cons pe_str (pa_cons pe_str pa_nil))) (by rfl)) (pss_one (ps_ret (pe_cmpR op_eq (pe_cmpR op_gt (pe_callB (cr_sum rfl) (by rfl) Z_sum (by decide +kernel) (pa_cons (pv 4) pa_nil)) pe_int (nomark _)) (pe_cmpR op_eq (pv 3) pe_str (nomark _)) (nomark _)))) pss_nil)
    (pss_cons (ps_if (pt_cmpR op_in_seq (pv 3) (pe_tup (pa_cons pe_str (pa_cons pe_str pa_nil))) (by rfl)) (pss_one (ps_set (i := 4) sc__law_fact_kept.nd rfl (by first | exact Or.inl rfl | exact Or.inr rfl) (pe_lst (pa_cons (pe_callB (cr_sum rfl) (by rfl) Z_sum (by decide +kernel) (pa_cons (pv 4) pa_nil)) pa_nil)))) pss_nil)
    (pss_cons (ps_if (pt_cmpR op_in_seq (pv 3) (pe_tup (pa_cons pe_str (pa_cons pe_str pa_nil))) (by rfl)) (pss_one (ps_ret (pe_callB (cr_all rfl) (by rfl) Z_all (by decide +kernel) (pa_cons (pe_lc (own := [("_law_many", 7)]) (g := (gName 7)) (tt := tYes) rfl sc__law_fact_kept.nd (pi_list (pv 4)) (blkOk_by (own := [("_law_many", 7)]) (N := n__law_fact_kept) (sc := defScope s__law_fact_kept) (by decide +kernel)) (fun _ _ _ _ _ => (pg_name (i := 7) sc__law_fact_kept.nd rfl (by first | exact Or.inl rfl | exact Or.inr rfl))) (fun _ _ _ _ _ => pts_nil) (fun _ _ _ _ _ => (pe_cmpR op_ge (pv 7) (pe_ix ix_tup (pv 2) pe_int (fun _ _ => rfl)) (nomark _)))) pa_nil)))) pss_nil)
    (pss_one (ps_ret (pe_callB (cr_all rfl) (by rfl) Z_all (by decide +kernel) (pa_cons (pe_lc (own := [("_law_many", 7)]) (g := (gName 7)) (tt := tYes) rfl sc__law_fact_kept.nd (pi_list (pv 4)) (blkOk_by (own := [("_law_many", 7)]) (N := n__law_fact_kept) (sc := defScope s__law_fact_kept) (by decide +kernel)) (fun _ _ _ _ _ => (pg_name (i := 7) sc__law_fact_kept.nd rfl (by first | exact Or.inl rfl | exact Or.inr rfl))) (fun _ _ _ _ _ => pts_nil) (fun _ _ _ _ _ => (pe_cmpR op_le (pv 7) (pe_ix ix_tup (pv 2) pe_int (fun _ _ => rfl)) (nomark _)))) pa_nil))))))))))
abbrev s__law_kept : Stmt := topS 50
abbrev n__law_kept : List Str := ["_law_words_here", "_law_world_here", "_law_saying_here"]
theorem sc__law_kept : FnScope n__law_kept ["_law_words_here", "_law_world_here", "_law_saying_here"] (defScope s__law_kept) := ⟨rfl, rfl, rfl, by decide +kernel, rfl, by decide +kernel, by decide +kernel⟩
theorem p__law_kept {m : Nat} {k : Nat} (c__law_kept : Good P w K mg base "_law_kept" ["_law_words_here", "_law_world_here", "_law_saying_here"] k (sp__law_kept K m)) (c__law_fact_kept : Good P w K mg base "_law_fact_kept" ["_law_words_here", "_law_world_here", "_law_saying_here"] k (sp__law_fact_kept K)) (f : Addr) (cdv : Value) (Ar : Around) (outer : List PySem.Env) (s : Shared) (H : Hp) (E : XK) (hr : Room k (Ar.deeper (envOfC "_law_kept" (defScope s__law_kept) s.heap.objs.size f cdv))) :
    PSs (cxOf CX0 P w K mg base n__law_kept "_law_kept" (defScope s__law_kept) f cdv Ar outer s H E).nox (defBody s__law_kept) (t__law_kept K m) :=
  (pss_cons (ps_if (pt_cmpR op_eq (pe_ix ix_tup (pv 2) pe_int (fun _ _ => rfl)) pe_str (nomark _)) (pss_one (ps_ret (pe_not (pe_cg c__law_kept hr (pa_cons (pv 0) (pa_cons (pv 1) (pa_cons (pe_ix ix_tup (pv 2) pe_int (fun _ _ => rfl)) pa_nil))))))) pss_nil)
    (pss_cons (ps_if (pt_cmpR op_eq (pe_ix ix_tup (pv 2) pe_int (fun _ _ => rfl)) pe_str (nomark _)) (pss_one (ps_ret (pe_and (pe_cg c__law_kept hr (pa_cons (pv 0) (pa_cons (pv 1) (pa_cons (pe_ix ix_tup (pv 2) pe_int (fun _ _ => rfl)) pa_nil)))) (pe_one (pe_cg c__law_kept hr (pa_cons (pv 0) (pa_cons (pv 1) (pa_cons (pe_ix ix_tup (pv 2) pe_int (fun _ _ => rfl)) pa_nil)))))))) pss_nil)
    (pss_cons (ps_if (pt_cmpR op_eq (pe_ix ix_tup (pv 2) pe_int (fun _ _ => rfl)) pe_str (nomark _)) (pss_one (ps_ret (pe_or (pe_cg c__law_kept hr (pa_cons (pv 0) (pa_cons (pv 1) (pa_cons (pe_ix ix_tup (pv 2) pe_int (fun _ _ => rfl)) pa_nil)))) (pe_one (pe_cg c__law_kept hr (pa_cons (pv 0) (pa_cons (pv 1) (pa_cons (pe_ix ix_tup (pv 2) pe_int (fun _ _ => rfl)) pa_nil)))))))) pss_nil)
    (pss_one (ps_ret (pe_cg c__law_fact_kept hr (pa_cons (pv 0) (pa_cons (pv 1) (pa_cons (pv 2) pa_nil)))))))))
end
end Wf


set_option maxHeartbeats 4000000

/-! The derivations: printed by gen.py. -/
namespace Wf
open PySem PySem.Spec PyProof.Rows L2
section
variable {P : Program} {w : World} {K : PySem.W.Frag} {mg : Str → Option Value} {base : Heap}
abbrev s__law_spots : Stmt := topS 51
abbrev n__law_spots : List Str := ["_law_words_here", "_law_size_here", "_law_spots_here", "_law_k", "_law_a"]
theorem sc__law_spots : FnScope n__law_spots ["_law_words_here", "_law_size_here"] (defScope s__law_spots) := ⟨rfl, rfl, rfl, by decide +kernel, rfl, by decide +kernel, by decide +kernel⟩
theorem p__law_spots {k : Nat} (Z_len : mg "len" = none) (Z_range : mg "range" = none) (f : Addr) (cdv : Value) (Ar : Around) (outer : List PySem.Env) (s : Shared) (H : Hp) (E : XK) (hr : Room k (Ar.deeper (envOfC "_law_spots" (defScope s__law_spots) s.heap.objs.size f cdv))) :
    PSs (cxOf CX0 P w K mg base n__law_spots "_law_spots" (defScope s__law_spots) f cdv Ar outer s H E).nox (defBody s__law_spots) (t__law_spots K) :=
  (pss_cons (ps_set (i := 2) sc__law_spots.nd rfl (by first | exact Or.inl rfl | exact Or.inr rfl) (pe_lst pa_nil))
    (pss_cons (ps_for PassesOwn.never rfl (pi_range1 (by rfl) Z_range (pa_cons (pe_callB call_len_seq (by rfl) Z_len (by decide +kernel) (pa_cons (pe_ix ix_tup (pv 0) pe_int (fun _ _ => rfl)) pa_nil)) pa_nil)) (pg_name (i := 3) sc__law_spots.nd rfl (by first | exact Or.inl rfl | exact Or.inr rfl)) (pss_one (ps_set (i := 2) sc__law_spots.nd rfl (by first | exact Or.inl rfl | exact Or.inr rfl) (pe_op op_cat (pv 2) (pe_lc (own := [("_law_a", 4)]) (g := (gName 4)) (tt := tYes) rfl sc__law_spots.nd (pi_range1 (by rfl) Z_range (pa_cons (pv 1) pa_nil)) (blkOk_by (own := [("_law_a", 4)]) (N := n__law_spots) (sc := defScope s__law_spots) (by decide +kernel)) (fun _ _ _ _ _ => (pg_name (i := 4) sc__law_spots.nd rfl (by first | exact Or.inl rfl | exact Or.inr rfl))) (fun _ _ _ _ _ => pts_nil) (fun _ _ _ _ _ => (pe_tup (pa_cons pe_int (pa_cons (pv 3) (pa_cons (pe_op op_shl pe_int (pv 4)) pa_nil))))))))))
    (pss_cons (ps_for PassesOwn.never rfl (pi_range1 (by rfl) Z_range (pa_cons (pe_callB call_len_seq (by rfl) Z_len (by decide +kernel) (pa_cons (pe_ix ix_tup (pv 0) pe_int (fun _ _ => rfl)) pa_nil)) pa_nil)) (pg_name (i := 3) sc__law_spots.nd rfl (by first | exact Or.inl rfl | exact Or.inr rfl)) (pss_one (ps_set (i := 2) sc__law_spots.nd rfl (by first | exact Or.inl rfl | exact Or.inr rfl) (pe_op op_cat (pv 2) (pe_lc (own := [("_law_a", 4)]) (g := (gName 4)) (tt := tYes) rfl sc__law_spots.nd (pi_range1 (by rfl) Z_range (pa_cons (pe_op op_mul (pv 1) (pv 1)) pa_nil)) (blkOk_by (own := [("_law_a", 4)]) (N := n__law_spots) (sc := defScope s__law_spots) (by decide +kernel)) (fun _ _ _ _ _ => (pg_name (i := 4) sc__law_spots.nd rfl (by first | exact Or.inl rfl | exact Or.inr rfl))) (fun _ _ _ _ _ => pts_nil) (fun _ _ _ _ _ => (pe_tup (pa_cons pe_int (pa_cons (pv 3) (pa_cons (pe_op op_shl pe_int (pv 4)) pa_nil))))))))))
    (pss_one (ps_ret (pv 2))))))
abbrev s__law_bit_put : Stmt := topS 52
abbrev n__law_bit_put : List Str := ["_law_world_here", "_law_spot", "_law_truth", "_law_sort", "_law_k", "_law_bit", "_law_row"]
theorem sc__law_bit_put : FnScope n__law_bit_put ["_law_world_here", "_law_spot", "_law_truth"] (defScope s__law_bit_put) := ⟨rfl, rfl, rfl, by decide +kernel, rfl, by decide +kernel, by decide +kernel⟩
theorem p__law_bit_put {k : Nat} (Z_list : mg "list" = none) (Z_int : mg "int" = none) (Z_tuple : mg "tuple" = none) (f : Addr) (cdv : Value) (Ar : Around) (outer : List PySem.Env) (s : Shared) (H : Hp) (E : XK) (hr : Room k (Ar.deeper (envOfC "_law_bit_put" (defScope s__law_bit_put) s.heap.objs.size f cdv))) :
    PSs (cxOf CX0 P w K mg base n__law_bit_put "_law_bit_put" (defScope s__law_bit_put) f cdv Ar outer s H E).nox (defBody s__law_bit_put) (t__law_bit_put K) :=
  (pss_cons (ps_asg (pv 1) (pg_tup rfl (pgs_cons (pg_name (i := 3) sc__law_bit_put.nd rfl (by first | exact Or.inl rfl | exact Or.inr rfl)) (pgs_cons (pg_name (i := 4) sc__law_bit_put.nd rfl (by first | exact Or.inl rfl | exact Or.inr rfl)) (pgs_cons (pg_name (i := 5) sc__law_bit_put.nd rfl (by first | exact Or.inl rfl | exact Or.inr rfl)) pgs_nil)))))
    (pss_cons (ps_set (i := 6) sc__law_bit_put.nd rfl (by first | exact Or.inl rfl | exact Or.inr rfl) (pe_callTy call_list_of (by rfl) Z_list (by decide +kernel) (pa_cons (pe_ix ix_tup (pv 0) (pv 3) (fun _ _ => rfl)) pa_nil)))
    (pss_cons (ps_asg (pe_op op_sub (pe_op op_or (pe_ix ix_list (pv 6) (pv 4) (fun _ _ => rfl)) (pv 5)) (pe_ix ix_list (pe_lst (pa_cons (pv 5) (pa_cons pe_int pa_nil))) (pe_callTy call_int1 (by rfl) Z_int (by decide +kernel) (pa_cons (pv 2) pa_nil)) (fun _ _ => rfl))) (pg_sub (pv 6) (pv 4) set_list))
    (pss_cons (ps_if (pt_cmpR op_eq (pv 3) pe_int (nomark _)) (pss_one (ps_ret (pe_tup (pa_cons (pe_ix ix_tup (pv 0) pe_int (fun _ _ => rfl)) (pa_cons (pe_callTy call_tupleF (by rfl) Z_tuple (by decide +kernel) (pa_cons (pv 6) pa_nil)) (pa_cons (pe_ix ix_tup (pv 0) pe_int (fun _ _ => rfl)) pa_nil)))))) pss_nil)
    (pss_one (ps_ret (pe_tup (pa_cons (pe_ix ix_tup (pv 0) pe_int (fun _ _ => rfl)) (pa_cons (pe_ix ix_tup (pv 0) pe_int (fun _ _ => rfl)) (pa_cons (pe_callTy call_tupleF (by rfl) Z_tuple (by decide +kernel) (pa_cons (pv 6) pa_nil)) pa_nil))))))))))
abbrev s__law_picked : Stmt := topS 53
abbrev n__law_picked : List Str := ["_law_spots_here", "_law_purse_here", "_law_many", "_law_some", "_law_k", "_law_spot"]
theorem sc__law_picked : FnScope n__law_picked ["_law_spots_here", "_law_purse_here", "_law_many"] (defScope s__law_picked) := ⟨rfl, rfl, rfl, by decide +kernel, rfl, by decide +kernel, by decide +kernel⟩
theorem p__law_picked {k : Nat} (Z_range : mg "range" = none) (Z_len : mg "len" = none) (c__law_next : Good P w K mg base "_law_next" ["_law_purse_here", "_law_many"] k (sp__law_next K)) (f : Addr) (cdv : Value) (Ar : Around) (outer : List PySem.Env) (s : Shared) (H : Hp) (E : XK) (hr : Room k (Ar.deeper (envOfC "_law_picked" (defScope s__law_picked) s.heap.objs.size f cdv))) :
    PSs (cxOf CX0 P w K mg base n__law_picked "_law_picked" (defScope s__law_picked) f cdv Ar outer s H E).nox (defBody s__law_picked) (t__law_picked K) :=
  (pss_cons (ps_set (i := 3) sc__law_picked.nd rfl (by first | exact Or.inl rfl | exact Or.inr rfl) (pe_lst pa_nil))
    (pss_cons (ps_for PassesOwn.never rfl (pi_range1 (by rfl) Z_range (pa_cons (pv 2) pa_nil)) (pg_name (i := 4) sc__law_picked.nd rfl (by first | exact Or.inl rfl | exact Or.inr rfl)) (pss_one (ps_if (pt_cmpR op_gt (pe_callB call_len_seq (by rfl) Z_len (by decide +kernel) (pa_cons (pv 0) pa_nil)) pe_int (nomark _)) (pss_cons (ps_set (i := 5) sc__law_picked.nd rfl (by first | exact Or.inl rfl | exact Or.inr rfl) (pe_ix ix_list (pv 0) (pe_cg c__law_next hr (pa_cons (pv 1) (pa_cons (pe_callB call_len_seq (by rfl) Z_len (by decide +kernel) (pa_cons (pv 0) pa_nil)) pa_nil))) (fun _ _ => rfl)))
    (pss_one (ps_if (pt_cmpR (op_notInD (u65 hr)) (pv 5) (pv 3) (by rfl)) (pss_one (ps_expr (pe_bm PySem.F.plainAttrs_list PySem.F.slot_list_append PySem.F.type_list_append mt_append (pv 3) (pa_cons (pv 5) pa_nil)))) pss_nil))) pss_nil)))
    (pss_one (ps_ret (pv 3)))))
abbrev s__law_between : Stmt := topS 54
abbrev n__law_between : List Str := ["_law_world_here", "_law_some", "_law_worlds", "_law_spot", "_law_lower", "_law_one"]
theorem sc__law_between : FnScope n__law_between ["_law_world_here", "_law_some"] (defScope s__law_between) := ⟨rfl, rfl, rfl, by decide +kernel, rfl, by decide +kernel, by decide +kernel⟩
theorem p__law_between {k : Nat} (c__law_bit_put : Good P w K mg base "_law_bit_put" ["_law_world_here", "_law_spot", "_law_truth"] k (sp__law_bit_put K)) (f : Addr) (cdv : Value) (Ar : Around) (outer : List PySem.Env) (s : Shared) (H : Hp) (E : XK) (hr : Room k (Ar.deeper (envOfC "_law_between" (defScope s__law_between) s.heap.objs.size f cdv))) :
    PSs (cxOf CX0 P w K mg base n__law_between "_law_between" (defScope s__law_between) f cdv Ar outer s H E).nox (defBody s__law_between) (t__law_between K) :=
  (pss_cons (ps_set (i := 2) sc__law_between.nd rfl (by first | exact Or.inl rfl | exact Or.inr rfl) (pe_lst (pa_cons (pv 0) pa_nil)))
    (pss_cons (ps_for PassesOwn.never rfl (pi_list (pv 1)) (pg_name (i := 3) sc__law_between.nd rfl (by first | exact Or.inl rfl | exact Or.inr rfl)) (pss_cons (ps_setLc (i := 4) (own := [("_law_one", 5)]) (g := (gName 5)) (tt := tYes) rfl sc__law_between.nd rfl rfl (sw_true rfl rfl rfl (by decide +kernel)) (pi_list (pv 2)) (blkOk_by (own := [("_law_one", 5)]) (N := n__law_between) (sc := defScope s__law_between) (by decide +kernel)) (fun _ _ _ _ _ => (pg_name (i := 5) sc__law_between.nd rfl (by first | exact Or.inl rfl | exact Or.inr rfl))) (fun _ _ _ _ _ => pts_nil) (fun _ _ _ _ _ => (pe_cg c__law_bit_put hr (pa_cons (pv 5) (pa_cons (pv 3) (pa_cons pe_bl pa_nil))))))
    (pss_one (ps_set (i := 2) sc__law_between.nd rfl (by first | exact Or.inl rfl | exact Or.inr rfl) (pe_op op_cat (pv 4) (pe_lc (own := [("_law_one", 5)]) (g := (gName 5)) (tt := tYes) rfl sc__law_between.nd (pi_list (pv 2)) (blkOk_by (own := [("_law_one", 5)]) (N := n__law_between) (sc := defScope s__law_between) (by decide +kernel)) (fun _ _ _ _ _ => (pg_name (i := 5) sc__law_between.nd rfl (by first | exact Or.inl rfl | exact Or.inr rfl))) (fun _ _ _ _ _ => pts_nil) (fun _ _ _ _ _ => (pe_cg c__law_bit_put hr (pa_cons (pv 5) (pa_cons (pv 3) (pa_cons pe_bl pa_nil)))))))))))
    (pss_one (ps_ret (pv 2)))))
abbrev s__law_number : Stmt := topS 55
abbrev n__law_number : List Str := ["_law_grid_here", "_law_size_here", "_law_k"]
theorem sc__law_number : FnScope n__law_number ["_law_grid_here"] (defScope s__law_number) := ⟨rfl, rfl, rfl, by decide +kernel, rfl, by decide +kernel, by decide +kernel⟩
theorem p__law_number {k : Nat} (Z_len : mg "len" = none) (Z_range : mg "range" = none) (Z_sum : mg "sum" = none) (f : Addr) (cdv : Value) (Ar : Around) (outer : List PySem.Env) (s : Shared) (H : Hp) (E : XK) (hr : Room k (Ar.deeper (envOfC "_law_number" (defScope s__law_number) s.heap.objs.size f cdv))) :
    PSs (cxOf CX0 P w K mg base n__law_number "_law_number" (defScope s__law_number) f cdv Ar outer s H E).nox (defBody s__law_number) (t__law_number K) :=
  (pss_cons (ps_set (i := 1) sc__law_number.nd rfl (by first | exact Or.inl rfl | exact Or.inr rfl) (pe_callB call_len_seq (by rfl) Z_len (by decide +kernel) (pa_cons (pv 0) pa_nil)))
    (pss_one (ps_ret (pe_callB (cr_sum rfl) (by rfl) Z_sum (by decide +kernel) (pa_cons (pe_lc (own := [("_law_k", 2)]) (g := (gName 2)) (tt := tYes) rfl sc__law_number.nd (pi_range1 (by rfl) Z_range (pa_cons (pe_op op_mul (pv 1) (pv 1)) pa_nil)) (blkOk_by (own := [("_law_k", 2)]) (N := n__law_number) (sc := defScope s__law_number) (by decide +kernel)) (fun _ _ _ _ _ => (pg_name (i := 2) sc__law_number.nd rfl (by first | exact Or.inl rfl | exact Or.inr rfl))) (fun _ _ _ _ _ => pts_nil) (fun _ _ _ _ _ => (pe_op op_shl (pe_ix ix_list (pe_ix ix_list (pv 0) (pe_op op_fdivN (pv 2) (pv 1)) (fun _ _ => rfl)) (pe_op op_modN (pv 2) (pv 1)) (fun _ _ => rfl)) (pv 2)))) pa_nil)))))
abbrev s__law_so : Stmt := topS 56
abbrev n__law_so : List Str := ["_law_words_here", "_law_part", "_law_worlds", "_law_saying_here", "_law_expression_here", "_law_answer", "_law_must", "_law_may", "_law_world_here", "_law_keeping", "_law_tie"]
theorem sc__law_so : FnScope n__law_so ["_law_words_here", "_law_part", "_law_worlds", "_law_saying_here", "_law_expression_here"] (defScope s__law_so) := ⟨rfl, rfl, rfl, by decide +kernel, rfl, by decide +kernel, by decide +kernel⟩
theorem p__law_so {k : Nat} (c_told : Good P w K mg base "told" ["words", "part", "saying"] k (sp_told K 9)) (c_bounds : Good P w K mg base "bounds" ["words", "part", "expression"] k (sp_bounds K 9)) (c__law_kept : Good P w K mg base "_law_kept" ["_law_words_here", "_law_world_here", "_law_saying_here"] k (sp__law_kept K 9)) (c__law_value : Good P w K mg base "_law_value" ["_law_words_here", "_law_world_here", "_law_expression_here"] k (sp__law_value K 9)) (c__law_number : Good P w K mg base "_law_number" ["_law_grid_here"] k (sp__law_number K)) (f : Addr) (cdv : Value) (Ar : Around) (outer : List PySem.Env) (s : Shared) (H : Hp) (E : XK) (hr : Room k (Ar.deeper (envOfC "_law_so" (defScope s__law_so) s.heap.objs.size f cdv))) :
    PSs (cxOf CX0 P w K mg base n__law_so "_law_so" (defScope s__law_so) f cdv Ar outer s H E).nox (defBody s__law_so) (t__law_so K) :=
  (pss_cons (ps_set (i := 5) sc__law_so.nd rfl (by first | exact Or.inl rfl | exact Or.inr rfl) (pe_cg c_told hr (pa_cons (pv 0) (pa_cons (pv 1) (pa_cons (pv 3) pa_nil)))))
    (pss_cons (ps_asg (pe_cg c_bounds hr (pa_cons (pv 0) (pa_cons (pv 1) (pa_cons (pv 4) pa_nil)))) (pg_tup rfl (pgs_cons (pg_name (i := 6) sc__law_so.nd rfl (by first | exact Or.inl rfl | exact Or.inr rfl)) (pgs_cons (pg_name (i := 7) sc__law_so.nd rfl (by first | exact Or.inl rfl | exact Or.inr rfl)) pgs_nil))))
    (pss_cons (ps_for PassesOwn.never rfl (pi_list (pv 2)) (pg_name (i := 8) sc__law_so.nd rfl (by first | exact Or.inl rfl | exact Or.inr rfl)) (pss_cons (ps_set (i := 9) sc__law_so.nd rfl (by first | exact Or.inl rfl | exact Or.inr rfl) (pe_cg c__law_kept hr (pa_cons (pv 0) (pa_cons (pv 8) (pa_cons (pv 3) pa_nil)))))
    (pss_cons (ps_if (PW.pt (pw_and (pt_cmpR op_notN1 (pv 5) pe_non (nomark _)) (pw_and1 (pt_cmpR op_ne (pv 5) (pv 9) (nomark _))))) (pss_one (ps_ret pe_bl)) pss_nil)
    (pss_cons (ps_if (pt_cmpR op_ne (pe_cg c_told hr (pa_cons (pv 0) (pa_cons (pe_tup (pa_cons (pv 8) (pa_cons (pv 8) pa_nil))) (pa_cons (pv 3) pa_nil)))) (pv 9) (nomark _)) (pss_one (ps_ret pe_bl)) pss_nil)
    (pss_cons (ps_set (i := 10) sc__law_so.nd rfl (by first | exact Or.inl rfl | exact Or.inr rfl) (pe_cg c__law_number hr (pa_cons (pe_cg c__law_value hr (pa_cons (pv 0) (pa_cons (pv 8) (pa_cons (pv 4) pa_nil)))) pa_nil)))
    (pss_cons (ps_if (PW.pt (pw_or (pt_cmpR op_ne (pe_op op_and (pv 6) (pv 10)) (pv 6) (nomark _)) (pw_or1 (pt_cmpR op_ne (pe_op op_and (pv 10) (pv 7)) (pv 10) (nomark _))))) (pss_one (ps_ret pe_bl)) pss_nil)
    (pss_one (ps_if (pt_cmpR (op_neD hr.units) (pe_cg c_bounds hr (pa_cons (pv 0) (pa_cons (pe_tup (pa_cons (pv 8) (pa_cons (pv 8) pa_nil))) (pa_cons (pv 4) pa_nil)))) (pe_tup (pa_cons (pv 10) (pa_cons (pv 10) pa_nil))) (nomark _)) (pss_one (ps_ret pe_bl)) pss_nil))))))))
    (pss_one (ps_ret pe_bl)))))
abbrev s__law_light : Stmt := topS 57
abbrev n__law_light : List Str := ["_law_purse_here", "_law_names", "_law_one", "_law_leaf_here", "_law_many", "_law_some"]
theorem sc__law_light : FnScope n__law_light ["_law_purse_here", "_law_names", "_law_one"] (defScope s__law_light) := ⟨rfl, rfl, rfl, by decide +kernel, rfl, by decide +kernel, by decide +kernel⟩
theorem p__law_light {k : Nat} (c__law_leaf : Good P w K mg base "_law_leaf" ["_law_purse_here", "_law_names"] k (sp__law_leaf K)) (c__law_next : Good P w K mg base "_law_next" ["_law_purse_here", "_law_many"] k (sp__law_next K)) (f : Addr) (cdv : Value) (Ar : Around) (outer : List PySem.Env) (s : Shared) (H : Hp) (E : XK) (hr : Room k (Ar.deeper (envOfC "_law_light" (defScope s__law_light) s.heap.objs.size f cdv))) :
    PSs (cxOf CX0 P w K mg base n__law_light "_law_light" (defScope s__law_light) f cdv Ar outer s H E).nox (defBody s__law_light) (t__law_light K) :=
  (pss_cons (ps_set (i := 3) sc__law_light.nd rfl (by first | exact Or.inl rfl | exact Or.inr rfl) (pe_cg c__law_leaf hr (pa_cons (pv 0) (pa_cons (pv 1) pa_nil))))
    (pss_cons (ps_set (i := 4) sc__law_light.nd rfl (by first | exact Or.inl rfl | exact Or.inr rfl) (pe_cg c__law_next hr (pa_cons (pv 0) (pa_cons pe_int pa_nil))))
    (pss_cons (ps_set (i := 5) sc__law_light.nd rfl (by first | exact Or.inl rfl | exact Or.inr rfl) (pe_lst (pa_cons (pe_tup (pa_cons pe_str (pa_cons (pv 2) (pa_cons (pv 3) pa_nil)))) (pa_cons (pe_tup (pa_cons pe_str (pa_cons (pv 3) (pa_cons (pv 2) pa_nil)))) (pa_cons (pe_tup (pa_cons pe_str (pa_cons (pv 2) pa_nil))) (pa_cons (pe_tup (pa_cons pe_str (pa_cons (pv 2) pa_nil))) (pa_cons (pe_tup (pa_cons pe_str (pa_cons (pv 4) (pa_cons (pv 2) pa_nil)))) (pa_cons (pe_tup (pa_cons pe_str (pa_cons (pv 4) (pa_cons (pv 2) pa_nil)))) pa_nil))))))))
    (pss_cons (ps_set (i := 5) sc__law_light.nd rfl (by first | exact Or.inl rfl | exact Or.inr rfl) (pe_op op_cat (pv 5) (pe_lst (pa_cons (pe_tup (pa_cons pe_str (pa_cons (pv 4) (pa_cons (pv 2) pa_nil)))) (pa_cons (pe_tup (pa_cons pe_str (pa_cons (pv 4) (pa_cons (pv 2) pa_nil)))) (pa_cons (pe_tup (pa_cons pe_str (pa_cons (pv 2) (pa_cons (pv 3) pa_nil)))) (pa_cons (pe_tup (pa_cons pe_str (pa_cons (pe_tup (pa_cons pe_str (pa_cons (pv 2) (pa_cons (pv 3) pa_nil)))) pa_nil))) pa_nil)))))))
    (pss_one (ps_ret (pe_ix ix_list (pv 5) (pe_cg c__law_next hr (pa_cons (pv 0) (pa_cons pe_int pa_nil))) (fun _ _ => rfl))))))))
abbrev s_law : Stmt := topS 58
abbrev n_law : List Str := ["_law_script", "_law_words_here", "_law_names", "_law_purse_here", "_law_size_here", "_law_world_here", "_law_spots_here", "_law_k", "_law_some", "_law_expression_here", "_law_worlds", "_law_saying_here"]
theorem sc_law : FnScope n_law ["_law_script"] (defScope s_law) := ⟨rfl, rfl, rfl, by decide +kernel, rfl, by decide +kernel, by decide +kernel⟩
theorem p_law {k : Nat} (Z_len : mg "len" = none) (Z_min : mg "min" = none) (Z_max : mg "max" = none) (Z_range : mg "range" = none) (Z_int : mg "int" = none) (c__law_words : Good P w K mg base "_law_words" ["_law_script"] k (sp__law_words K)) (c__law_purse : Good P w K mg base "_law_purse" ["_law_script", "_law_k"] k (sp__law_purse K)) (c__law_size : Good P w K mg base "_law_size" ["_law_purse_here"] k (sp__law_size K)) (c__law_world : Good P w K mg base "_law_world" ["_law_words_here", "_law_size_here", "_law_purse_here"] k (sp__law_world K)) (c__law_spots : Good P w K mg base "_law_spots" ["_law_words_here", "_law_size_here"] k (sp__law_spots K)) (c__law_next : Good P w K mg base "_law_next" ["_law_purse_here", "_law_many"] k (sp__law_next K)) (c__law_picked : Good P w K mg base "_law_picked" ["_law_spots_here", "_law_purse_here", "_law_many"] k (sp__law_picked K)) (c__law_expression : Good P w K mg base "_law_expression" ["_law_purse_here", "_law_depth", "_law_names"] k (sp__law_expression K 9)) (c__law_light : Good P w K mg base "_law_light" ["_law_purse_here", "_law_names", "_law_one"] k (sp__law_light K)) (c__law_saying : Good P w K mg base "_law_saying" ["_law_purse_here", "_law_depth", "_law_names"] k (sp__law_saying K 9)) (c__law_between : Good P w K mg base "_law_between" ["_law_world_here", "_law_some"] k (sp__law_between K)) (c__law_so : Good P w K mg base "_law_so" ["_law_words_here", "_law_part", "_law_worlds", "_law_saying_here", "_law_expression_here"] k (sp__law_so K)) (f : Addr) (cdv : Value) (Ar : Around) (outer : List PySem.Env) (s : Shared) (H : Hp) (E : XK) (hr : Room k (Ar.deeper (envOfC "law" (defScope s_law) s.heap.objs.size f cdv))) :
    PSs (cxOf CX0 P w K mg base n_law "law" (defScope s_law) f cdv Ar outer s H E).nox (defBody s_law) (t_law K) :=
  (pss_cons (ps_set (i := 1) sc_law.nd rfl (by first | exact Or.inl rfl | exact Or.inr rfl) (pe_cg c__law_words hr (pa_cons (pv 0) pa_nil)))
    (pss_cons (ps_set (i := 2) sc_law.nd rfl (by first | exact Or.inl rfl | exact Or.inr rfl) (pe_op op_catA (pe_ix ix_tup (pv 1) pe_int (fun _ _ => rfl)) (pe_ix ix_tup (pv 1) pe_int (fun _ _ => rfl))))
    (pss_cons (ps_set (i := 3) sc_law.nd rfl (by first | exact Or.inl rfl | exact Or.inr rfl) (pe_cg c__law_purse hr (pa_cons (pv 0) (pa_cons pe_int pa_nil))))
    (pss_cons (ps_set (i := 4) sc_law.nd rfl (by first | exact Or.inl rfl | exact Or.inr rfl) (pe_cg c__law_size hr (pa_cons (pv 3) pa_nil)))
    (pss_cons (ps_set (i := 5) sc_law.nd rfl (by first | exact Or.inl rfl | exact Or.inr rfl) (pe_cg c__law_world hr (pa_cons (pv 1) (pa_cons (pv 4) (pa_cons (pv 3) pa_nil)))))
    (pss_cons (ps_set (i := 6) sc_law.nd rfl (by first | exact Or.inl rfl | exact Or.inr rfl) (pe_cg c__law_spots hr (pa_cons (pv 1) (pa_cons (pv 4) pa_nil))))
    (pss_cons (ps_for PassesOwn.never rfl (pi_range2 (by rfl) Z_range (pa_cons pe_int (pa_cons (pe_callB (call_max2 rfl) (by rfl) Z_max (by decide +kernel) (pa_cons pe_int (pa_cons (pe_callB (call_min2 rfl) (by rfl) Z_min (by decide +kernel) (pa_cons pe_int (pa_cons (pe_callB call_len_seq (by rfl) Z_len (by decide +kernel) (pa_cons (pv 0) pa_nil)) pa_nil))) pa_nil))) pa_nil))) (pg_name (i := 7) sc_law.nd rfl (by first | exact Or.inl rfl | exact Or.inr rfl)) (pss_cons (ps_set (i := 3) sc_law.nd rfl (by first | exact Or.inl rfl | exact Or.inr rfl) (pe_cg c__law_purse hr (pa_cons (pv 0) (pa_cons (pv 7) pa_nil))))
    (pss_cons (ps_set (i := 8) sc_law.nd rfl (by first | exact Or.inl rfl | exact Or.inr rfl) (pe_cg c__law_picked hr (pa_cons (pv 6) (pa_cons (pv 3) (pa_cons (pe_cg c__law_next hr (pa_cons (pv 3) (pa_cons (pe_ix ix_list (pe_lst (pa_cons pe_int (pa_cons pe_int pa_nil))) (pe_callTy call_int1 (by rfl) Z_int (by decide +kernel) (pa_cons (pe_cmpR op_gt (pv 7) pe_int (nomark _)) pa_nil)) (fun _ _ => rfl)) pa_nil))) pa_nil)))))
    (pss_cons (ps_set (i := 9) sc_law.nd rfl (by first | exact Or.inl rfl | exact Or.inr rfl) (pe_cg c__law_expression hr (pa_cons (pv 3) (pa_cons (pe_cg c__law_next hr (pa_cons (pv 3) (pa_cons (pe_ix ix_list (pe_lst (pa_cons pe_int (pa_cons pe_int pa_nil))) (pe_callTy call_int1 (by rfl) Z_int (by decide +kernel) (pa_cons (pe_cmpR op_gt (pv 7) pe_int (nomark _)) pa_nil)) (fun _ _ => rfl)) pa_nil))) (pa_cons (pv 2) pa_nil)))))
    (pss_cons (ps_if (pt_cmpR op_gt (pv 7) pe_int (nomark _)) (pss_one (ps_set (i := 11) sc_law.nd rfl (by first | exact Or.inl rfl | exact Or.inr rfl) (pe_cg c__law_light hr (pa_cons (pv 3) (pa_cons (pv 2) (pa_cons (pv 9) pa_nil)))))) (pss_one (ps_set (i := 11) sc_law.nd rfl (by first | exact Or.inl rfl | exact Or.inr rfl) (pe_cg c__law_saying hr (pa_cons (pv 3) (pa_cons (pe_cg c__law_next hr (pa_cons (pv 3) (pa_cons pe_int pa_nil))) (pa_cons (pv 2) pa_nil)))))))
    (pss_cons (ps_set (i := 10) sc_law.nd rfl (by first | exact Or.inl rfl | exact Or.inr rfl) (pe_cg c__law_between hr (pa_cons (pv 5) (pa_cons (pv 8) pa_nil))))
    (pss_one (ps_if (pt_not (pt_val (pe_cg c__law_so hr (pa_cons (pv 1) (pa_cons (pe_tup (pa_cons (pe_ix ix_list (pv 10) pe_int (fun _ _ => rfl)) (pa_cons (pe_ix ix_list (pv 10) (pe_un un_neg pe_int) (fun _ _ => rfl)) pa_nil))) (pa_cons (pv 10) (pa_cons (pv 11) (pa_cons (pv 9) pa_nil)))))))) (pss_one (ps_ret pe_bl)) pss_nil))))))))
    (pss_one (ps_ret pe_bl)))))))))
end
end Wf


set_option maxHeartbeats 1000000
/-! Rules for rows that are images of others; tests of words; items of written rows. -/
namespace Wf
open PySem PySem.Spec PyProof.Rows L2
section
variable {K : PySem.W.Frag} {es : Env} {te tl ta tb : TE} {tt : TT} {tA : TA} {P : PyData → Prop} {i i2 j : Nat} {vs : List Nat} {o : Option (List PyData)} {N : NP} {R : PyData → Prop} {t tz : TS}
/-! items of a written row -/
theorem e_t0 {x : PyData} {r : List PyData} (h : Ed K ta es (.tuple (x :: r))) : Ed K (tOp (rIxT K) ta (tC (.int 0))) es x := e_ixT h e_int (atI_n (k := 0) rfl)
theorem e_t1 {x y : PyData} {r : List PyData} (h : Ed K ta es (.tuple (x :: y :: r))) : Ed K (tOp (rIxT K) ta (tC (.int 1))) es y := e_ixT h e_int (atI_n (k := 1) rfl)
theorem e_t2 {x y z : PyData} {r : List PyData} (h : Ed K ta es (.tuple (x :: y :: z :: r))) : Ed K (tOp (rIxT K) ta (tC (.int 2))) es z := e_ixT h e_int (atI_n (k := 2) rfl)
theorem e_l0 {x : PyData} {r : List PyData} (h : Ed K ta es (.list (x :: r))) : Ed K (tOp (rIxL K) ta (tC (.int 0))) es x := e_ixL h e_int (atI_n (k := 0) rfl)
theorem e_l1 {x y : PyData} {r : List PyData} (h : Ed K ta es (.list (x :: y :: r))) : Ed K (tOp (rIxL K) ta (tC (.int 1))) es y := e_ixL h e_int (atI_n (k := 1) rfl)
theorem e_lk {ds : List PyData} {k : Nat} {d : PyData} (h : Ed K ta es (.list ds)) (hb : Ed K tb es (nI k)) (e : ds[k]? = some d) : Ed K (tOp (rIxL K) ta tb) es d := e_ixL h hb (atI_n e)
theorem e_tk {ds : List PyData} {k : Nat} {d : PyData} (h : Ed K ta es (.tuple ds)) (hb : Ed K tb es (nI k)) (e : ds[k]? = some d) : Ed K (tOp (rIxT K) ta tb) es d := e_ixT h hb (atI_n e)
theorem cut_tail (x : PyData) (r : List PyData) : cutD (x :: r) (some 1) none = r := by
  unfold cutD
  rw [show HT.sIx (x :: r).length 0 (some 1) = min 1 (x :: r).length from HT.sIx_nat _ 0 1, HT.sIx_none]
  rw [show min 1 (x :: r).length = 1 by rw [List.length_cons]; omega]
  show r.take ((x :: r).length - 1) = r
  rw [List.length_cons, Nat.add_sub_cancel, List.take_length]
theorem cut_take (xs : List PyData) (k : Nat) : cutD xs none (some (k : Int)) = xs.take k := by
  unfold cutD
  rw [HT.sIx_none, HT.sIx_nat, Nat.sub_zero, List.drop_zero]
  rcases Nat.le_total k xs.length with h | h
  · rw [Nat.min_eq_left h]
  · rw [Nat.min_eq_right h, List.take_length, List.take_of_length_le h]
theorem cut_drop (xs : List PyData) (k : Nat) : cutD xs (some (k : Int)) none = xs.drop k := by
  unfold cutD
  rw [HT.sIx_none, HT.sIx_nat]
  rcases Nat.le_total k xs.length with h | h
  · rw [Nat.min_eq_left h]
    rw [List.take_of_length_le (by rw [List.length_drop]; omega)]
  · rw [Nat.min_eq_right h, List.drop_length, List.drop_of_length_le h]; simp
/-! tests of a word -/
theorem sd_no {x y : Str} (h : es[i]? = some (some (.str x))) (hne : decide (x = y) = false) (k : Sd K j tz es o N R) : Sd K j (tSeq (tIfS (tTest (tOp rEq (tVar i) (tC (.str y)))) t tNext) tz) es o N R :=
  sd_when (b := false) ((t_testd (e_eqS (e_var h) e_str)).is hne) (fun z => nomatch z) fun _ => k
theorem sd_yes {x : Str} (h : es[i]? = some (some (.str x))) (k : Sd K j t es o (fun es1 o1 => Sd K j tz es1 o1 N R) R) : Sd K j (tSeq (tIfS (tTest (tOp rEq (tVar i) (tC (.str x)))) t tNext) tz) es o N R :=
  sd_when (b := true) ((t_testd (e_eqS (e_var h) e_str)).is (decide_eq_true rfl)) (fun _ => k) (fun z => nomatch z)
/-! comprehensions over images -/
theorem img_list {α : Type} {l : List α} {g : α → PyData} {ds : List PyData} (hl : ds.length = l.length) (h : ∀ (k : Nat) (x : PyData), ds[k]? = some x → ∀ a, l[k]? = some a → x = g a) : ds = l.map g := by
  apply List.ext_getElem?
  intro k
  rw [List.getElem?_map]
  cases e : ds[k]? with
  | none =>
    rw [List.getElem?_eq_none_iff] at e
    rw [List.getElem?_eq_none (by omega)]; rfl
  | some x =>
    have hk := (List.getElem?_eq_some_iff.mp e).1
    rw [List.getElem?_eq_getElem (by omega)]
    rw [h k x e _ (List.getElem?_eq_getElem (by omega))]; rfl
theorem img_get {α : Type} {l : List α} {f : α → PyData} {k : Nat} {x : PyData} (h : (l.map f)[k]? = some x) : ∃ a, a ∈ l ∧ l[k]? = some a ∧ x = f a := by
  rw [List.getElem?_map] at h
  cases e : l[k]? with
  | none => rw [e] at h; cases h
  | some a => rw [e] at h; exact ⟨a, List.mem_of_getElem? e, rfl, (Option.some.inj h).symm⟩
theorem e_lcTm {α : Type} {l : List α} {f g : α → PyData} {xs : List PyData} (h : Ep K tl es (fun d => d = .tuple xs ∨ ∃ ys : List Str, d = namesD (ys.map PyData.str) ∧ xs = ys.map PyData.str)) (hx : xs = l.map f) (hz : l.length ≤ 1000) (hi : i ∈ vs) (he : ∀ a, a ∈ l → Ed K te ((wipeE es vs).set i (some (f a))) (g a)) :
    Ed K (tLc (iTup K tl) (gName i) tYes te vs) es (.list (l.map g)) := by
  subst hx
  refine (e_lcTp (PI := fun k d => ∀ a, l[k]? = some a → d = g a) h (by rw [List.length_map]; exact hz) hi fun k x hx => ?_).weak ?_
  · obtain ⟨a, ha, hk, rfl⟩ := img_get hx
    exact (he a ha).weak fun d e b hb => by rw [e, Option.some.inj (hk.symm.trans hb)]
  · rintro d ⟨ds, rfl, hl, hd⟩
    rw [img_list (by rw [hl, List.length_map]) hd]
theorem e_lcLm {α : Type} {l : List α} {f g : α → PyData} (h : Ed K tl es (.list (l.map f))) (hz : l.length ≤ 1000) (hi : i ∈ vs) (he : ∀ a, a ∈ l → Ed K te ((wipeE es vs).set i (some (f a))) (g a)) :
    Ed K (tLc (iList K tl) (gName i) tYes te vs) es (.list (l.map g)) := by
  refine (e_lcLp (PI := fun k d => ∀ a, l[k]? = some a → d = g a) h (by rw [List.length_map]; exact hz) hi fun k x hx => ?_).weak ?_
  · obtain ⟨a, ha, hk, rfl⟩ := img_get hx
    exact (he a ha).weak fun d e b hb => by rw [e, Option.some.inj (hk.symm.trans hb)]
  · rintro d ⟨ds, rfl, hl, hd⟩
    rw [img_list (by rw [hl, List.length_map]) hd]
theorem e_lcL2m {α : Type} {l : List α} {f g r : α → PyData} (h : Ed K tl es (.list (l.map fun a => .tuple [f a, g a]))) (hz : l.length ≤ 1000) (hi : i ∈ vs) (hi2 : i2 ∈ vs) (he : ∀ a, a ∈ l → Ed K te (((wipeE es vs).set i (some (f a))).set i2 (some (g a))) (r a)) :
    Ed K (tLc (iList K tl) (gTup K 2 (gCons (gName i) (gCons (gName i2) gNil))) tYes te vs) es (.list (l.map r)) := by
  have fst : ∀ d, d ∈ l.map (fun a => PyData.tuple [f a, g a]) → d = .tuple [(match d with | .tuple (x :: _) => x | _ => .none), (match d with | .tuple (_ :: y :: _) => y | _ => .none)] := by
    intro d hd
    obtain ⟨a, _, rfl⟩ := List.mem_map.mp hd
    rfl
  refine e_lcL2 (fun k ds => ds = (l.take k).map r) (B := fun _ b => b = true) (PI := fun k d => ∀ a, l[k]? = some a → d = r a) h fst (by rw [List.length_map]; exact hz) hi hi2 rfl (fun _ _ _ => t_yes) (fun k x hx _ => ?_) (fun k x ds d hx e _ ed => ?_) (fun _ _ _ _ _ z => nomatch z) fun ds _ e => by rw [e, List.length_map, List.take_length]
  · obtain ⟨a, ha, hk, rfl⟩ := img_get hx
    exact (he a ha).weak fun d e b hb => by rw [e, Option.some.inj (hk.symm.trans hb)]
  · obtain ⟨a, ha, hk, rfl⟩ := img_get hx
    rw [e, ed a hk, take_one hk, List.map_append]; rfl
theorem e_lcTfm {α : Type} {l : List α} {f g : α → PyData} {p : α → Bool} {xs : List PyData} (h : Ed K tl es (.tuple xs)) (hx : xs = l.map f) (hz : l.length ≤ 1000) (hi : i ∈ vs) (ht : ∀ a, a ∈ l → Td K tt ((wipeE es vs).set i (some (f a))) (p a)) (he : ∀ a, a ∈ l → p a = true → Ed K te ((wipeE es vs).set i (some (f a))) (g a)) :
    Ed K (tLc (iTup K tl) (gName i) tt te vs) es (.list ((l.filter p).map g)) := by
  subst hx
  refine e_lcT (fun k ds => ds = ((l.take k).filter p).map g) (B := fun k b => ∀ a, l[k]? = some a → b = p a) (PI := fun k d => ∀ a, l[k]? = some a → d = g a) (h.weak fun d e => .inl e) (by rw [List.length_map]; exact hz) hi rfl (fun k x hx => ?_) (fun k x hx hb => ?_) (fun k x ds d hx e hb ed => ?_) (fun k x ds hx e hb => ?_) fun ds _ e => by rw [e, List.length_map, List.take_length]
  · obtain ⟨a, ha, hk, rfl⟩ := img_get hx
    exact (ht a ha).weak fun b e c hc => by rw [e, Option.some.inj (hk.symm.trans hc)]
  · obtain ⟨a, ha, hk, rfl⟩ := img_get hx
    exact (he a ha (hb a hk).symm).weak fun d e b hb => by rw [e, Option.some.inj (hk.symm.trans hb)]
  · obtain ⟨a, ha, hk, rfl⟩ := img_get hx
    rw [e, ed a hk, take_one hk, List.filter_append, List.map_append, List.filter_cons_of_pos (hb a hk).symm]; rfl
  · obtain ⟨a, ha, hk, rfl⟩ := img_get hx
    rw [e, take_one hk, List.filter_append, List.map_append, List.filter_cons_of_neg (by rw [← hb a hk]; decide)]; simp
/-- over a range, numbers told -/
theorem e_lcRn {n : Nat} {g : Nat → PyData} (h : EdA K tA es [nI n]) (hn : n ≤ 1000) (hi : i ∈ vs) (he : ∀ k : Nat, k < n → Ed K te ((wipeE es vs).set i (some (nI k))) (g k)) : Ed K (tLc (iRng1 tA) (gName i) tYes te vs) es (.list ((List.range n).map g)) :=
  (e_lcRd (n := (n : Int)) (g := g) h (by omega) hi fun k hk => he k (by omega)).is (by rw [Int.toNat_natCast])
/-- xs[k] += e, of the own list -/
theorem sd_aug {ds : List PyData} {k : Nat} {x y : Int} {ti : TE} (hi : Ed K ti es (.int (k : Int))) (hk : ds[k]? = some (.int x)) (h : Ed K te es (.int y)) (kk : N es (some (ds.set k (.int (x + y))))) :
    Sd K j (tAugS (tVar j) ti te (rGetL K) (ipI fun i j => i + j) rSetL) es (some ds) N R := fun F0 H0 σ F H D x0 E O kn kr => by
  obtain ⟨a0, _, g1, _⟩ := id O
  refine ⟨.ref a0, g1, hi σ F H x0.s E _ fun w F2 H2 di e2 hdi pi => ?_⟩
  subst pi
  have := hdi.int_
  subst this
  obtain ⟨a, vs, h1, h2, h3, h4, h5⟩ := O.after e2
  have ea : a = a0 := by
    rw [g1] at h1
    injection h1 with z
    injection z with z
    injection z with z
    exact z.symm
  subst ea
  obtain ⟨v, hv, hvn⟩ := h5.get hk
  have := hvn.int_
  subst this
  refine ⟨a, vs, k, _, rfl, rfl, SqL.of h4, hv, h σ F2 H2 (x0.trans e2).s (E.up e2.f) _ fun u F3 H3 dy e3 hdy py => ?_⟩
  subst py
  have := hdy.int_
  subst this
  refine ⟨x, y, rfl, rfl, ?_⟩
  obtain ⟨a', vs', h1', h2', h3', h4', h5'⟩ := (O.after e2).after e3
  have ea : a' = a := by
    rw [g1] at h1'
    injection h1' with z
    injection z with z
    injection z with z
    exact z.symm
  subst ea
  have x3 := (x0.trans e2).trans e3
  have hkl : k < vs'.length := by rw [h5'.len]; exact (List.getElem?_eq_some_iff.mp hk).1
  refine ⟨a', vs', _, k, rfl, rfl, h4', ixN_nat hkl, ?_⟩
  refine kn σ F3 _ es (some (ds.set k (.int (x + y)))) ⟨x3.f, fun b u w => ?_, fun b u w => ?_, x3.n⟩ (e2.f.trans e3.f) (E.up (e2.f.trans e3.f)) ⟨a', _, h1', h2', h3', upd_same, h5'.set (.int _) k⟩ kk
  · rw [upd_ne (ne_of_none w h3')]; exact x3.s _ _ w
  · rw [upd_ne (ne_of_none w h2')]; exact x3.h _ _ w
end
end Wf


set_option maxHeartbeats 1000000
/-! What each def of the program computes. -/
namespace Wf
open PySem PySem.Spec PyProof.Rows L2
section
variable {K : PySem.W.Frag} {N : NP}
theorem one_bit (t i : Nat) : decide ((t >>> i) &&& 1 = 1) = t.testBit i := by
  unfold Nat.testBit
  rw [Nat.and_comm 1 (t >>> i), Nat.and_one_is_mod]
  have : t >>> i % 2 = 0 ∨ t >>> i % 2 = 1 := by omega
  rcases this with h | h <;> rw [h] <;> rfl
theorem sq16 {n : Nat} (h : n ≤ 4) : n * n ≤ 16 := Nat.mul_le_mul h h
theorem k_ii : kitB "int" "int" = some true := by decide +kernel
theorem k_ib : kitB "int" "bool" = some false := by decide +kernel
theorem k_tt : kitB "tuple" "tuple" = some true := by decide +kernel
theorem k_it : kitB "int" "tuple" = some false := by decide +kernel
theorem k_st : kitB "str" "tuple" = some false := by decide +kernel
theorem sd_is_within (n a : Nat) (h : a < n) : Sd K 99 (t_is_within K) [some (nI n), some (nI a)] none N fun d => d = .bool true := by
  refine sd_retd (d := .bool true) ?_ rfl
  refine (e_andVd (b := true) (e_isi (e_var (d := nI a) rfl) k_ii (fun _ z => nomatch z)) fun _ => e_andVd (b := true) (c := true) (e_notV (b := false) (e_isi (e_var (d := nI a) rfl) k_ib (fun _ z => nomatch z))) fun _ => ?_)
  -- 0 <= thing < size
  intro σ F H s E Q q
  obtain ⟨v, h1, h2⟩ := E.at_ 1 _ rfl
  obtain ⟨u, h3, h4⟩ := E.at_ 0 _ rfl
  have e1 := h2.int_
  have e2 := h4.int_
  subst e1
  subst e2
  refine ⟨_, h1, _, _, rfl, rfl, true, ?_, ?_⟩
  · show V.bl (decide ((0 : Int) ≤ (a : Int))) = V.bl true
    rw [decide_eq_true (Int.natCast_nonneg a)]
  · refine iteT ⟨_, h3, _, _, rfl, rfl, ?_⟩
    show Q (V.bl (decide ((a : Int) < (n : Int)))) H
    rw [decide_eq_true (by omega)]
    exact q.now s (.bl true) rfl
theorem sd_row_of (n : Nat) (g : F) (b : Nat) (hn : n ≤ 4) (hb : b < n) : Sd K 99 (t_row_of K) [some (nI n), some (pyT n g), some (nI b)] none N fun d => d = nI (rowN n (enc n g) b) := by
  refine sd_retd (n_and (n_shr (e_var rfl) (n_mul (a := b) (b := n) (e_var rfl) (e_var rfl) (by omega))) (n_sub (n_shl (n_c (n := 1)) (e_var rfl) (by omega) (by omega)) (n_c (n := 1)) ?_)) ?_
  · rw [Nat.shiftLeft_eq, Nat.one_mul]; exact Nat.one_le_two_pow
  · unfold rowN
    rw [Nat.shiftLeft_eq, Nat.one_mul]
theorem range_one {α : Type} (k : Nat) (g : Nat → List α) : (List.range (k + 1)).flatMap g = (List.range k).flatMap g ++ g k := by
  rw [List.range_succ, List.flatMap_append]; simp
theorem len_flat {n k : Nat} (f : F) : ((List.range k).flatMap fun a => ((List.range n).filter (f a)).map fun b => pyP (a, b)).length ≤ k * n := by
  induction k with
  | zero => simp
  | succ k ih =>
    rw [range_one, List.length_append, List.length_map, Nat.succ_mul]
    have := List.length_filter_le (f k) (List.range n)
    rw [List.length_range] at this
    omega
theorem sd_pairs_of (n : Nat) (f : F) (hn : n ≤ 4) : Sd K 2 (t_pairs_of K) [some (nI n), some (pyT n f), none, none, none] none N fun d => d = .list ((prs n f).map pyP) := by
  have h16 := sq16 hn
  refine sd_seq (sd_own (ef_lst e_nil fun ds e => by rw [e]; decide) (by simp) fun ds e => ?_)
  subst e
  refine sd_seq (sd_forR (n := (n : Int)) (e_consd (e_var rfl) e_nil) (by decide) (fun k es o => ∃ x y, es = [some (nI n), some (pyT n f), none, x, y] ∧ o = some ((List.range k).flatMap fun a => ((List.range n).filter (f a)).map fun b => pyP (a, b)))
    ⟨none, none, rfl, rfl⟩ ?_ ?_)
  · rintro k es1 o1 hk ⟨x, y, rfl, rfl⟩
    have hk : k < n := by omega
    refine sd_forR (n := (n : Int)) (e_consd (e_var rfl) e_nil) (by decide) (fun m es o => ∃ y, es = [some (nI n), some (pyT n f), none, some (nI k), y] ∧ o = some (((List.range k).flatMap fun a => ((List.range n).filter (f a)).map fun b => pyP (a, b)) ++ ((List.range m).filter (f k)).map fun b => pyP (k, b)))
      ⟨y, rfl, by simp⟩ ?_ ?_
    · rintro m es1 o1 hm ⟨y, rfl, rfl⟩
      have hm : m < n := by omega
      have hkm := ix_lt hk hm
      refine sd_ifd (b := f k m) ((t_testd (n_eq (n_and (n_shr (e_var rfl) (n_add (n_mul (a := k) (b := n) (e_var rfl) (e_var rfl) (by omega)) (e_var (d := nI m) rfl))) (n_c (n := 1))) (n_c (n := 1)))).is ?_) (fun e => ?_) fun e => ?_
      · rw [one_bit, enc_at f hk hm]
      · refine sd_app (e_tupd (e_consd (e_var rfl) (e_consd (e_var rfl) e_nil)) (by simp)) ?_ fun d ed => ?_
        · have h1 := len_flat (n := n) (k := k) f
          have h2 : k * n ≤ n * n := Nat.mul_le_mul_right n (by omega)
          rw [List.length_append, List.length_map]
          have h3 := List.length_filter_le (f k) (List.range m)
          rw [List.length_range] at h3
          omega
        · subst ed
          refine ⟨_, rfl, ?_⟩
          rw [List.range_succ, List.filter_append, List.filter_cons_of_pos e, List.map_append, List.append_assoc]; rfl
      · refine sd_next ⟨_, rfl, ?_⟩
        rw [List.range_succ, List.filter_append, List.filter_cons_of_neg (by rw [e]; decide)]; simp
    · rintro es1 o1 ⟨y, rfl, rfl⟩
      refine ⟨_, y, rfl, ?_⟩
      rw [range_one, Int.toNat_natCast]
  · rintro es1 o1 ⟨x, y, rfl, rfl⟩
    refine sd_freeze (sd_retd (e_var rfl) ?_)
    rw [Int.toNat_natCast]
    unfold prs
    rw [List.map_flatMap]
    congr 2
    funext a
    rw [List.map_map]; rfl
/-- pairs as data -/
def fstD : PyData → PyData
  | .tuple (x :: _) => x
  | _ => .none
def sndD : PyData → PyData
  | .tuple (_ :: y :: _) => y
  | _ => .none
theorem pairs_pair {l : List (Nat × Nat)} : ∀ d, d ∈ l.map pyP → d = .tuple [fstD d, sndD d] := by
  intro d hd
  obtain ⟨p, _, rfl⟩ := List.mem_map.mp hd
  rfl
theorem get_map {α : Type} {l : List α} {g : α → PyData} {k : Nat} {d : PyData} (h : (l.map g)[k]? = some d) : ∃ p, l[k]? = some p ∧ d = g p := by
  rw [List.getElem?_map] at h
  cases e : l[k]? with
  | none => rw [e] at h; cases h
  | some p => rw [e] at h; exact ⟨p, rfl, (Option.some.inj h).symm⟩
/-- a loop over pairs that joins bits: one turn more -/
theorem fold_more {α : Type} {l : List α} {k : Nat} {p : α} (g : Nat → α → Nat) (z : Nat) (h : l[k]? = some p) : (l.take (k + 1)).foldl g z = g ((l.take k).foldl g z) p := by
  rw [take_one h, List.foldl_append]; rfl
theorem sd_tie_of (n : Nat) (hn : n ≤ 4) : Sd K 99 (t_tie_of K) [some (nI n), some (.list (((List.range n).map fun a => (a, a)).map pyP)), none, none, none] none N fun d => d = pyT n sameF := by
  have h16 := sq16 hn
  refine sd_setd (d := nI 0) e_int (by decide) ?_
  refine sd_seq (sd_forL2 (f := fstD) (g := sndD) (e_var rfl) pairs_pair (by decide) (by decide)
    (fun k es o => ∃ x y, es = [some (nI n), some (.list (((List.range n).map fun a => (a, a)).map pyP)), some (nI ((((List.range n).map fun a => (a, a)).take k).foldl (fun acc (p : Nat × Nat) => acc ||| 1 <<< (p.1 * n + p.2)) 0)), x, y] ∧ o = none)
    ⟨none, none, rfl, rfl⟩ ?_ ?_)
  · rintro k d es1 o1 hd ⟨x, y, rfl, rfl⟩
    obtain ⟨p, hp, rfl⟩ := get_map hd
    obtain ⟨a, ha, e⟩ := List.mem_map.mp (List.mem_of_getElem? hp)
    have ha := List.mem_range.mp ha
    subst e
    have hix := ix_lt ha ha
    refine sd_when (b := false) ?_ (fun z => nomatch z) fun _ => ?_
    · refine (t_or (a := false) (b := false) (t_not (a := true) (t_Bd (e_calld (n, a) (e_consd (e_var rfl) (e_consd (e_var rfl) e_nil)) ha fun d r => r))) fun _ => t_not (a := true) (t_Bd (e_calld (n, a) (e_consd (e_var rfl) (e_consd (e_var rfl) e_nil)) ha fun d r => r)))
    · refine sd_asg (n_or (e_var rfl) (n_shl (n_c (n := 1)) (n_add (n_mul (a := a) (b := n) (e_var rfl) (e_var rfl) (by omega)) (e_var (d := nI a) rfl)) (by omega) (by omega))) (by decide) fun d e => ?_
      subst e
      refine ⟨some (nI a), some (nI a), ?_, rfl⟩
      rw [fold_more _ 0 hp]; rfl
  · rintro es1 o1 ⟨x, y, rfl, rfl⟩
    refine sd_retd (e_var rfl) ?_
    rw [List.length_map, List.take_length, enc_same]
theorem sd_common (n : Nat) (f g : F) : Sd K 99 (t_common K) [some (pyT n f), some (pyT n g)] none N fun d => d = pyT n (andF f g) :=
  sd_retd (n_and (e_var rfl) (e_var rfl)) (by rw [enc_and])
theorem sd_either (n : Nat) (f g : F) : Sd K 99 (t_either K) [some (pyT n f), some (pyT n g)] none N fun d => d = pyT n (orF f g) :=
  sd_retd (n_or (e_var rfl) (e_var rfl)) (by rw [enc_or])
theorem sd_without (n : Nat) (f g : F) : Sd K 99 (t_without K) [some (pyT n f), some (pyT n g)] none N fun d => d = pyT n (lessF f g) :=
  sd_retd (n_xor (e_var rfl) (n_and (e_var rfl) (e_var rfl))) (by rw [enc_less])
theorem sd_turned (n : Nat) (f : F) (hn : n ≤ 4) : Sd K 99 (t_turned K) [some (nI n), some (pyT n f), none, none, none] none N fun d => d = pyT n (turnF f) := by
  have h16 := sq16 hn
  refine sd_setd (d := nI 0) e_int (by decide) ?_
  refine sd_seq (sd_forL2 (f := fstD) (g := sndD) (ds := (prs n f).map pyP) (e_calld (n, f) (e_consd (e_var rfl) (e_consd (e_var rfl) e_nil)) hn fun d r => r) pairs_pair (by decide) (by decide)
    (fun k es o => ∃ x y, es = [some (nI n), some (pyT n f), some (nI (((prs n f).take k).foldl (fun acc (p : Nat × Nat) => acc ||| 1 <<< (p.2 * n + p.1)) 0)), x, y] ∧ o = none)
    ⟨none, none, rfl, rfl⟩ ?_ ?_)
  · rintro k d es1 o1 hd ⟨x, y, rfl, rfl⟩
    obtain ⟨p, hp, rfl⟩ := get_map hd
    obtain ⟨h1, h2, _⟩ := mem_prs.mp (List.mem_of_getElem? hp)
    have hix := ix_lt h2 h1
    refine sd_asg (n_or (e_var rfl) (n_shl (n_c (n := 1)) (n_add (n_mul (a := p.2) (b := n) (e_var rfl) (e_var rfl) (by omega)) (e_var (d := nI p.1) rfl)) (by omega) (by omega))) (by decide) fun d e => ?_
    subst e
    refine ⟨some (nI p.1), some (nI p.2), ?_, rfl⟩
    rw [fold_more _ 0 hp]; rfl
  · rintro es1 o1 ⟨x, y, rfl, rfl⟩
    refine sd_retd (e_var rfl) ?_
    rw [List.length_map, List.take_length, enc_turn]
theorem rowN_lt {n t b : Nat} : rowN n t b < 2 ^ n := by
  unfold rowN
  have h : 2 ^ n - 1 < 2 ^ n := by have := Nat.two_pow_pos n; omega
  exact Nat.lt_of_le_of_lt (Nat.and_le_right) h
theorem sd_joined (n : Nat) (f g : F) (hn : n ≤ 4) : Sd K 99 (t_joined K) [some (nI n), some (pyT n f), some (pyT n g), none, none, none] none N fun d => d = pyT n (joinF n f g) := by
  have h16 := sq16 hn
  refine sd_setd (d := nI 0) e_int (by decide) ?_
  refine sd_seq (sd_forL2 (f := fstD) (g := sndD) (ds := (prs n f).map pyP) (e_calld (n, f) (e_consd (e_var rfl) (e_consd (e_var rfl) e_nil)) hn fun d r => r) pairs_pair (by decide) (by decide)
    (fun k es o => ∃ x y, es = [some (nI n), some (pyT n f), some (pyT n g), some (nI (((prs n f).take k).foldl (fun acc (p : Nat × Nat) => acc ||| rowN n (enc n g) p.2 <<< (p.1 * n)) 0)), x, y] ∧ o = none)
    ⟨none, none, rfl, rfl⟩ ?_ ?_)
  · rintro k d es1 o1 hd ⟨x, y, rfl, rfl⟩
    obtain ⟨p, hp, rfl⟩ := get_map hd
    obtain ⟨h1, h2, _⟩ := mem_prs.mp (List.mem_of_getElem? hp)
    have hix := ix_lt h1 h2
    have hrow : rowN n (enc n g) p.2 < 1000000000 := by
      have q : rowN n (enc n g) p.2 < 2 ^ n := rowN_lt
      have q2 : 2 ^ n ≤ 2 ^ 4 := Nat.pow_le_pow_right (by omega) hn
      omega
    refine sd_asg (n_or (e_var rfl) (n_shl (a := rowN n (enc n g) p.2) (e_calld (n, g, p.2) (e_consd (e_var rfl) (e_consd (e_var rfl) (e_consd (e_var rfl) e_nil))) ⟨hn, h2⟩ fun d r => r) (n_mul (a := p.1) (b := n) (e_var rfl) (e_var rfl) (by omega)) hrow (by omega))) (by decide) fun d e => ?_
    subst e
    refine ⟨some (nI p.1), some (nI p.2), ?_, rfl⟩
    rw [fold_more _ 0 hp]; rfl
  · rintro es1 o1 ⟨x, y, rfl, rfl⟩
    refine sd_retd (e_var rfl) ?_
    rw [List.length_map, List.take_length, enc_join]
theorem sd_closed (n : Nat) (f : F) (hn : n ≤ 4) : Sd K 99 (t_closed K) [some (nI n), some (pyT n f), none, none] none N fun d => d = pyT n (closedP n f) := by
  refine sd_setd (d := pyT n f) (e_var rfl) (by decide) ?_
  refine sd_seq (sd_forR (n := (n : Int)) (e_consd (e_var rfl) e_nil) (by decide) (fun k es o => ∃ x, es = [some (nI n), some (pyT n f), some (pyT n (stepsF n f k)), x] ∧ o = none) ⟨none, rfl, rfl⟩ ?_ ?_)
  · rintro k es1 o1 hk ⟨x, rfl, rfl⟩
    refine sd_asg (n_or (e_var rfl) (b := enc n (joinF n (stepsF n f k) f)) (e_calld (n, stepsF n f k, f) (e_consd (e_var rfl) (e_consd (e_var rfl) (e_consd (e_var rfl) e_nil))) hn fun d r => r)) (by decide) fun d e => ?_
    subst e
    refine ⟨some (nI k), ?_, rfl⟩
    rw [enc_or]; rfl
  · rintro es1 o1 ⟨x, rfl, rfl⟩
    exact sd_retd (e_var rfl) rfl
theorem sd_same (n : Nat) (hn : n ≤ 4) : Sd K 99 (t_same K) [some (nI n), none] none N fun d => d = pyT n sameF := by
  refine sd_ret (e_calld n (e_consd (e_var rfl) (e_consd ?_ e_nil)) hn fun d r => r)
  refine (e_lcRd (n := (n : Int)) (g := fun a => pyP (a, a)) (e_consd (e_var rfl) e_nil) (by omega) (by decide) fun k _ => e_tupd (e_consd (e_var rfl) (e_consd (e_var rfl) e_nil)) (by simp)).is ?_
  rw [Int.toNat_natCast, List.map_map]; rfl
theorem sd_every (n : Nat) (hn : n ≤ 4) : Sd K 99 (t_every K) [some (nI n)] none N fun d => d = pyT n allF := by
  have h16 := sq16 hn
  refine sd_retd (n_sub (n_shl (n_c (n := 1)) (n_mul (a := n) (b := n) (e_var rfl) (e_var rfl) (by omega)) (by omega) (by omega)) (n_c (n := 1)) ?_) ?_
  · rw [Nat.shiftLeft_eq, Nat.one_mul]; exact Nat.one_le_two_pow
  · rw [Nat.shiftLeft_eq, Nat.one_mul, enc_all]
theorem sd_kind_tie (n k : Nat) (hn : n ≤ 4) : Sd K 99 (t_kind_tie K) [some (nI n), some (nI k), none, none] none N fun d => d = pyT n (kindF k) := by
  have h16 := sq16 hn
  refine sd_setd (d := nI 0) e_int (by decide) ?_
  refine sd_seq (sd_forR (n := (n : Int)) (e_consd (e_var rfl) e_nil) (by decide) (fun m es o => ∃ x, es = [some (nI n), some (nI k), some (nI ((List.range m).foldl (fun acc a => if k.testBit a = true then acc ||| 1 <<< (a * n + a) else acc) 0)), x] ∧ o = none) ⟨none, rfl, rfl⟩ ?_ ?_)
  · rintro m es1 o1 hm ⟨x, rfl, rfl⟩
    have hm : m < n := by omega
    have hix := ix_lt hm hm
    refine sd_ifd (b := k.testBit m) ((t_testd (n_eq (n_and (n_shr (e_var rfl) (e_var (d := nI m) rfl)) (n_c (n := 1))) (n_c (n := 1)))).is (one_bit k m)) (fun e => ?_) fun e => ?_
    · refine sd_asg (n_or (e_var rfl) (n_shl (n_c (n := 1)) (n_add (n_mul (a := m) (b := n) (e_var rfl) (e_var rfl) (by omega)) (e_var (d := nI m) rfl)) (by omega) (by omega))) (by decide) fun d e2 => ?_
      subst e2
      refine ⟨some (nI m), ?_, rfl⟩
      rw [List.range_succ, List.foldl_append, List.foldl_cons, List.foldl_nil, if_pos e]; rfl
    · refine sd_next ⟨some (nI m), ?_, rfl⟩
      rw [List.range_succ, List.foldl_append, List.foldl_cons, List.foldl_nil, if_neg (by rw [e]; decide)]; rfl
  · rintro es1 o1 ⟨x, rfl, rfl⟩
    refine sd_retd (e_var rfl) ?_
    rw [Int.toNat_natCast, enc_kind]
end
end Wf


set_option maxHeartbeats 1000000
/-! What the defs of the program compute, further. -/
namespace Wf
open PySem PySem.Spec PyProof.Rows L2
section
variable {K : PySem.W.Frag} {N : NP}
/-! ### names -/
theorem at_get {α : Type} [DecidableEq α] {x : α} : ∀ {xs : List α}, x ∈ xs → xs[at_ x xs]? = some x
  | [], h => by cases h
  | y :: r, h => by
    unfold at_
    by_cases e : y = x
    · rw [if_pos e, e]; rfl
    · rw [if_neg e]
      have h : x ∈ r := by
        rcases List.mem_cons.mp h with h | h
        · exact absurd h.symm e
        · exact h
      rw [List.getElem?_cons_succ]
      exact at_get h
theorem at_first {α : Type} [DecidableEq α] {x : α} : ∀ {xs : List α} (m : Nat), m < at_ x xs → xs[m]? ≠ some x
  | [], m, h => by cases h
  | y :: r, m, h => by
    unfold at_ at h
    by_cases e : y = x
    · rw [if_pos e] at h; omega
    · rw [if_neg e] at h
      cases m with
      | zero =>
        intro q
        exact e (Option.some.inj q)
      | succ m =>
        rw [List.getElem?_cons_succ]
        exact at_first m (by omega)
theorem at_lt {α : Type} [DecidableEq α] {x : α} {xs : List α} (h : x ∈ xs) : at_ x xs < xs.length := (List.getElem?_eq_some_iff.mp (at_get h)).1
theorem getD_mem {l : List Nat} {k : Nat} (h : k < l.length) : l.getD k 0 ∈ l := by
  rw [List.getD_eq_getElem?_getD, List.getElem?_eq_getElem h]
  exact List.getElem_mem h
theorem getD_map {l : List Nat} {k : Nat} (h : k < l.length) : (l.map nI)[k]? = some (nI (l.getD k 0)) := by
  rw [List.getElem?_map, List.getD_eq_getElem?_getD, List.getElem?_eq_getElem h]; rfl
theorem named_kind {kn tn : List Str} {w : Wd} {s : Str} (h : s ∈ kn) : namedF kn tn w s = kindF (w.ks.getD (at_ s kn) 0) := if_pos h
theorem named_tie {kn tn : List Str} {w : Wd} {s : Str} (h : ¬ s ∈ kn) : namedF kn tn w s = bitF w.n (w.ts.getD (at_ s tn) 0) := if_neg h
theorem named_enc {kn tn : List Str} {w : Wd} {s : Str} (ok : WOk kn tn w) (h : ¬ s ∈ kn) (ht : s ∈ tn) : w.ts.getD (at_ s tn) 0 = enc w.n (namedF kn tn w s) := by
  rw [named_tie h, enc_bitF]
  exact ok.tb _ (getD_mem (by rw [ok.ts]; exact at_lt ht))
theorem sd_named (kn tn : List Str) (w : Wd) (s : Str) (ok : WOk kn tn w) (hs : s ∈ kn ++ tn) : Sd K 99 (t_named K) [some (pyQ kn tn), some (pyW w), some (.str s), none, none, none] none N fun d => d = pyT w.n (namedF kn tn w s) := by
  refine sd_un3 (d1 := nI w.n) (d2 := .tuple (w.ks.map nI)) (d3 := .tuple (w.ts.map nI)) (e_var rfl) (by decide) (by decide) (by decide) ?_
  refine sd_when (b := decide (s ∈ kn)) (t_testd (e_inS (e_var rfl) ((e_t0 (x := pyN kn) (e_var rfl)).weak fun d e => .inr (.inr e)))) (fun e => ?_) fun e => ?_
  · have hk := of_decide_eq_true e
    refine sd_ret (e_calld (w.n, w.ks.getD (at_ s kn) 0) (e_consd (e_var rfl) (e_consd (e_tk (e_var rfl) (e_tix (e_t0 (x := pyN kn) (e_var rfl)) (e_var rfl) (at_get hk) at_first) (getD_map (by rw [ok.ks]; exact at_lt hk))) e_nil)) ok.n fun d r => ?_)
    rw [named_kind hk]
    exact r
  · have hk := of_decide_eq_false e
    have ht : s ∈ tn := by
      rcases List.mem_append.mp hs with h | h
      · exact absurd h hk
      · exact h
    refine sd_retd (e_tk (e_var rfl) (e_tix (e_t1 (y := pyN tn) (e_var rfl)) (e_var rfl) (at_get ht) at_first) (getD_map (by rw [ok.ts]; exact at_lt ht))) ?_
    rw [named_enc ok hk ht]
/-! ### made -/
theorem sd_made (n : Nat) (m : Mk) (hn : n ≤ 4) : Sd K 99 (t_made K) [some (nI n), some (.str (mkN m)), some (.list (mkA n m))] none N fun d => d = pyT n (mkF n m) := by
  cases m with
  | same => exact sd_yes (x := "same") rfl (sd_ret (e_calld n (e_consd (e_var rfl) e_nil) hn fun d r => r))
  | all => exact sd_no (x := "all") rfl (by decide +kernel) (sd_yes rfl (sd_ret (e_calld n (e_consd (e_var rfl) e_nil) hn fun d r => r)))
  | none =>
    refine sd_no (x := "none") rfl (by decide +kernel) (sd_no (x := "none") rfl (by decide +kernel) (sd_yes rfl (sd_retd (d := nI 0) e_int ?_)))
    rw [enc_none n]; rfl
  | plus f g =>
    refine sd_no (x := "plus") rfl (by decide +kernel) (sd_no (x := "plus") rfl (by decide +kernel) (sd_no (x := "plus") rfl (by decide +kernel) (sd_yes rfl ?_)))
    exact sd_ret (e_calld (n, f, g) (e_consd (e_l0 (e_var rfl)) (e_consd (e_l1 (e_var rfl)) e_nil)) trivial fun d r => r)
  | both f g =>
    refine sd_no (x := "both") rfl (by decide +kernel) (sd_no (x := "both") rfl (by decide +kernel) (sd_no (x := "both") rfl (by decide +kernel) (sd_no (x := "both") rfl (by decide +kernel) (sd_no (x := "both") rfl (by decide +kernel) (sd_yes rfl ?_)))))
    exact sd_ret (e_calld (n, f, g) (e_consd (e_l0 (e_var rfl)) (e_consd (e_l1 (e_var rfl)) e_nil)) trivial fun d r => r)
  | joined f g =>
    refine sd_no (x := "joined") rfl (by decide +kernel) (sd_no (x := "joined") rfl (by decide +kernel) (sd_no (x := "joined") rfl (by decide +kernel) (sd_no (x := "joined") rfl (by decide +kernel) (sd_no (x := "joined") rfl (by decide +kernel) (sd_no (x := "joined") rfl (by decide +kernel) (sd_yes rfl ?_))))))
    exact sd_ret (e_calld (n, f, g) (e_consd (e_var rfl) (e_consd (e_l0 (e_var rfl)) (e_consd (e_l1 (e_var rfl)) e_nil))) hn fun d r => r)
  | turned f =>
    refine sd_no (x := "turned") rfl (by decide +kernel) (sd_no (x := "turned") rfl (by decide +kernel) (sd_no (x := "turned") rfl (by decide +kernel) (sd_no (x := "turned") rfl (by decide +kernel) (sd_no (x := "turned") rfl (by decide +kernel) (sd_no (x := "turned") rfl (by decide +kernel) (sd_no (x := "turned") rfl (by decide +kernel) (sd_yes rfl ?_)))))))
    exact sd_ret (e_calld (n, f) (e_consd (e_var rfl) (e_consd (e_l0 (e_var rfl)) e_nil)) hn fun d r => r)
  | closed f =>
    refine sd_no (x := "closed") rfl (by decide +kernel) (sd_no (x := "closed") rfl (by decide +kernel) (sd_no (x := "closed") rfl (by decide +kernel) (sd_no (x := "closed") rfl (by decide +kernel) (sd_no (x := "closed") rfl (by decide +kernel) (sd_no (x := "closed") rfl (by decide +kernel) (sd_no (x := "closed") rfl (by decide +kernel) (sd_no (x := "closed") rfl (by decide +kernel) ?_)))))))
    exact sd_ret (e_calld (n, f) (e_consd (e_var rfl) (e_consd (e_l0 (e_var rfl)) e_nil)) hn fun d r => r)
/-! ### tied_numbers -/
theorem cnt_filter : ∀ (n : Nat) (p : Nat → Bool), ((List.range n).filter p).length = cnt n p
  | 0, _ => rfl
  | n + 1, p => by
    rw [List.range_succ, List.filter_append, List.length_append, cnt_filter n p]
    show cnt n p + (List.filter p [n]).length = cnt n p + (p n).toNat
    cases h : p n with
    | true => rw [List.filter_cons_of_pos h]; rfl
    | false => rw [List.filter_cons_of_neg (by rw [h]; decide)]; rfl
/-- how many of some pairs begin with a -/
def firsts (l : List (Nat × Nat)) (a : Nat) : Nat := (l.filter fun p => p.1 == a).length
theorem firsts_append (l m : List (Nat × Nat)) (a : Nat) : firsts (l ++ m) a = firsts l a + firsts m a := by
  unfold firsts
  rw [List.filter_append, List.length_append]
theorem firsts_row (c a : Nat) (bs : List Nat) : firsts (bs.map fun b => (c, b)) a = if c = a then bs.length else 0 := by
  unfold firsts
  rw [List.filter_map, List.length_map]
  by_cases h : c = a
  · subst h
    rw [if_pos rfl]
    congr 1
    rw [List.filter_eq_self]
    intro b _
    simp
  · rw [if_neg h]
    rw [List.length_eq_zero_iff, List.filter_eq_nil_iff]
    intro b _
    simp [h]
theorem firsts_prs {n : Nat} (f : F) {a : Nat} (ha : a < n) : firsts (prs n f) a = cnt n (f a) := by
  have q : ∀ k : Nat, k ≤ n → firsts ((List.range k).flatMap fun a => ((List.range n).filter (f a)).map fun b => (a, b)) a = if a < k then cnt n (f a) else 0 := by
    intro k
    induction k with
    | zero => intro _; rfl
    | succ k ih =>
      intro hk
      rw [range_one, firsts_append, ih (by omega), firsts_row, cnt_filter]
      rcases Nat.lt_trichotomy a k with h | h | h
      · rw [if_pos h, if_neg (by omega), if_pos (by omega)]; omega
      · subst h
        rw [if_neg (by omega), if_pos rfl, if_pos (by omega)]; omega
      · rw [if_neg (by omega), if_neg (by omega), if_neg (by omega)]
  have := q n (Nat.le_refl n)
  rw [if_pos ha] at this
  exact this
theorem firsts_one (l : List (Nat × Nat)) (p : Nat × Nat) (a : Nat) : firsts (l ++ [p]) a = firsts l a + if p.1 = a then 1 else 0 := by
  rw [firsts_append]
  congr 1
  unfold firsts
  by_cases h : p.1 = a
  · rw [if_pos h, List.filter_cons_of_pos (by simp [h])]; rfl
  · rw [if_neg h, List.filter_cons_of_neg (by simp [h])]; rfl
theorem set_range {n k : Nat} {g : Nat → PyData} {d : PyData} : ((List.range n).map g).set k d = (List.range n).map fun a => if a = k then d else g a := by
  apply List.ext_getElem?
  intro i
  rw [List.getElem?_set, List.length_map, List.length_range]
  by_cases h : k = i
  · subst h
    by_cases hk : k < n
    · simp [hk]
    · simp [hk]
  · have h' : ¬ i = k := fun e => h e.symm
    by_cases hi : i < n
    · simp [h, h', hi]
    · simp [h, h', hi]
theorem sd_tied_numbers (n : Nat) (f : F) (hn : n ≤ 4) : Sd K 2 (t_tied_numbers K) [some (nI n), some (pyT n f), none, none, none] none N fun d => d = .list ((nums n f).map nI) := by
  refine sd_seq (sd_own (ef_rep (n := (n : Int)) (xs := [nI 0]) (e_lstd (e_consd e_int e_nil) (by simp)) (e_var rfl) (by omega) (by omega) (by simp)) (by simp) fun ds e => ?_)
  have e0 : ds = (List.range n).map fun a => nI (firsts ([] : List (Nat × Nat)) a) := by
    rw [e, Int.toNat_natCast]
    have : ∀ m : Nat, (List.replicate m [nI 0]).flatten = (List.range m).map fun a => nI (firsts ([] : List (Nat × Nat)) a) := by
      intro m
      induction m with
      | zero => rfl
      | succ m ih => rw [List.replicate_succ', List.flatten_append, ih, List.range_succ, List.map_append]; rfl
    exact this n
  subst e0
  refine sd_seq (sd_forL2 (f := fstD) (g := sndD) (ds := (prs n f).map pyP) (e_calld (n, f) (e_consd (e_var rfl) (e_consd (e_var rfl) e_nil)) hn fun d r => r) pairs_pair (by decide) (by decide)
    (fun k es o => ∃ x y, es = [some (nI n), some (pyT n f), none, x, y] ∧ o = some ((List.range n).map fun a => nI (firsts ((prs n f).take k) a)))
    ⟨none, none, rfl, rfl⟩ ?_ ?_)
  · rintro k d es1 o1 hd ⟨x, y, rfl, rfl⟩
    obtain ⟨p, hp, rfl⟩ := get_map hd
    obtain ⟨h1, h2, _⟩ := mem_prs.mp (List.mem_of_getElem? hp)
    refine sd_aug (k := p.1) (x := ((firsts ((prs n f).take k) p.1 : Nat) : Int)) (y := 1) (e_var rfl) (by simp [h1]) e_int ?_
    refine ⟨some (nI p.1), some (nI p.2), rfl, ?_⟩
    rw [set_range, take_one hp]
    congr 1
    apply List.map_congr_left
    intro a _
    rw [firsts_one]
    by_cases h : a = p.1
    · subst h
      rw [if_pos rfl, if_pos rfl]; rfl
    · rw [if_neg h, if_neg (fun z => h z.symm)]; rfl
  · rintro es1 o1 ⟨x, y, rfl, rfl⟩
    refine sd_freeze (sd_retd (e_var rfl) ?_)
    rw [List.length_map, List.take_length]
    unfold nums
    rw [List.map_map]
    congr 1
    apply List.map_congr_left
    intro a ha
    show nI (firsts (prs n f) a) = nI (cnt n (f a))
    rw [firsts_prs f (List.mem_range.mp ha)]
/-! ### bounds -/
def kids : E → List E
  | .plus e f => [e, f]
  | .less e f => [e, f]
  | .both e f => [e, f]
  | .joined e f => [e, f]
  | .turned e => [e]
  | .closed e => [e]
  | _ => []
/-- behind the name's test -/
theorem bounds_tail {m : Nat} (i : IB) (hi : i.Ok) (tag : Str) (e : E) (hpy : pyE e = .tuple (.str tag :: (kids e).map pyE)) (hne : decide (tag = "name") = false)
    (hk : ∀ e', e' ∈ kids e → eOk (i.kn ++ i.tn) e' ∧ eDep e' < m)
    (fin : Sd K 99 (tSeq (tIfS (tTest (tOp rEq (tVar 5) (tC (.str "less")))) (tRet (tTup (tCons (tCall (sp_without K) [] E0 (tCons (tOp (rIxL K) (tVar 7) (tC (.int 0))) (tCons (tOp (rIxL K) (tVar 8) (tC (.int 1))) tNil))) (tCons (tCall (sp_without K) [] E0 (tCons (tOp (rIxL K) (tVar 8) (tC (.int 0))) (tCons (tOp (rIxL K) (tVar 7) (tC (.int 1))) tNil))) tNil)))) tNext)
      (tRet (tTup (tCons (tCall (sp_made K) [] E0 (tCons (tOp (rIxT K) (tVar 3) (tC (.int 0))) (tCons (tVar 5) (tCons (tVar 7) tNil)))) (tCons (tCall (sp_made K) [] E0 (tCons (tOp (rIxT K) (tVar 3) (tC (.int 0))) (tCons (tVar 5) (tCons (tVar 8) tNil)))) tNil)))))
      [some (pyQ i.kn i.tn), some (.tuple [pyW i.l, pyW i.h]), some (pyE e), some (pyW i.l), some (pyW i.h), some (.str tag), some (.list ((kids e).map fun x => pyB i.l.n (i.b x))), some (.list ((kids e).map fun x => pyT i.l.n (i.b x).1)), some (.list ((kids e).map fun x => pyT i.l.n (i.b x).2)), none, none, none] none N fun d => d = pyB i.l.n (i.b e)) :
    Sd K 99 (t_bounds K m) [some (pyQ i.kn i.tn), some (.tuple [pyW i.l, pyW i.h]), some (pyE e), none, none, none, none, none, none, none, none, none] none N fun d => d = pyB i.l.n (i.b e) := by
  have hlen : (kids e).length ≤ 1000 := by cases e <;> simp [kids]
  refine sd_un2 (d1 := pyW i.l) (d2 := pyW i.h) (e_var rfl) (by decide) (by decide) ?_
  refine sd_setd (d := .str tag) ?_ (by decide) ?_
  · exact e_t0 (r := (kids e).map pyE) ((e_var (d := pyE e) rfl).is hpy)
  refine sd_no (x := tag) rfl hne ?_
  refine sd_setd (d := .list ((kids e).map fun x => pyB i.l.n (i.b x))) (e_lcTm (f := pyE) (g := fun x => pyB i.l.n (i.b x)) (xs := (kids e).map pyE) ?_ rfl hlen (by decide) fun a ha => ?_) (by decide) ?_
  · refine ((e_slT (lo := some 1) (hi := none) ((e_var (d := pyE e) rfl).is hpy) (o_some e_int) o_none).is ?_).weak fun d h => .inl h
    rw [cut_tail]
  · exact e_calld (i, a) (e_consd (e_var rfl) (e_consd (e_var rfl) (e_consd (e_var rfl) e_nil))) ⟨hi, hk a ha⟩ fun d r => r
  refine sd_setd (d := .list ((kids e).map fun x => pyT i.l.n (i.b x).1)) (e_lcL2m (l := kids e) (f := fun x => pyT i.l.n (i.b x).1) (g := fun x => pyT i.l.n (i.b x).2) (r := fun x => pyT i.l.n (i.b x).1) (e_var rfl) hlen (by decide) (by decide) fun a ha => e_var rfl) (by decide) ?_
  refine sd_setd (d := .list ((kids e).map fun x => pyT i.l.n (i.b x).2)) (e_lcL2m (l := kids e) (f := fun x => pyT i.l.n (i.b x).1) (g := fun x => pyT i.l.n (i.b x).2) (r := fun x => pyT i.l.n (i.b x).2) (e_var rfl) hlen (by decide) (by decide) fun a ha => e_var rfl) (by decide) ?_
  exact fin
theorem bounds_made {i : IB} {e : E} {tag : Str} {a b : Mk} (hn : i.l.n ≤ 4) (ht : decide (tag = "less") = false) (ha : mkN a = tag) (hb : mkN b = tag) (xa : (kids e).map (fun x => pyT i.l.n (i.b x).1) = mkA i.l.n a) (xb : (kids e).map (fun x => pyT i.l.n (i.b x).2) = mkA i.l.n b)
    (r : i.b e = (mkF i.l.n a, mkF i.l.n b)) {x0 x1 x2 : Option PyData} :
    Sd K 99 (tSeq (tIfS (tTest (tOp rEq (tVar 5) (tC (.str "less")))) (tRet (tTup (tCons (tCall (sp_without K) [] E0 (tCons (tOp (rIxL K) (tVar 7) (tC (.int 0))) (tCons (tOp (rIxL K) (tVar 8) (tC (.int 1))) tNil))) (tCons (tCall (sp_without K) [] E0 (tCons (tOp (rIxL K) (tVar 8) (tC (.int 0))) (tCons (tOp (rIxL K) (tVar 7) (tC (.int 1))) tNil))) tNil)))) tNext)
      (tRet (tTup (tCons (tCall (sp_made K) [] E0 (tCons (tOp (rIxT K) (tVar 3) (tC (.int 0))) (tCons (tVar 5) (tCons (tVar 7) tNil)))) (tCons (tCall (sp_made K) [] E0 (tCons (tOp (rIxT K) (tVar 3) (tC (.int 0))) (tCons (tVar 5) (tCons (tVar 8) tNil)))) tNil)))))
      [x0, x1, x2, some (pyW i.l), some (pyW i.h), some (.str tag), some (.list ((kids e).map fun x => pyB i.l.n (i.b x))), some (.list ((kids e).map fun x => pyT i.l.n (i.b x).1)), some (.list ((kids e).map fun x => pyT i.l.n (i.b x).2)), none, none, none] none N fun d => d = pyB i.l.n (i.b e) := by
  subst ha
  rw [xa, xb]
  refine sd_no (x := mkN a) rfl ht ?_
  rw [r]
  refine sd_retd (e_tupd (e_consd (e_calld (i.l.n, a) (e_consd (e_t0 (e_var rfl)) (e_consd (e_var rfl) (e_consd (e_var rfl) e_nil))) hn fun d r => r) (e_consd (e_calld (i.l.n, b) (e_consd (e_t0 (e_var rfl)) (e_consd ((e_var (d := .str (mkN a)) rfl).is (by rw [hb])) (e_consd (e_var rfl) e_nil))) hn fun d r => r) e_nil)) (by simp)) rfl
theorem sd_bounds {m : Nat} (i : IB) (e : E) (hi : i.Ok) (he : eOk (i.kn ++ i.tn) e) (hd : eDep e < m + 1) :
    Sd K 99 (t_bounds K m) [some (pyQ i.kn i.tn), some (.tuple [pyW i.l, pyW i.h]), some (pyE e), none, none, none, none, none, none, none, none, none] none N fun d => d = pyB i.l.n (i.b e) := by
  have hn := hi.l.n
  cases e with
  | name s =>
    refine sd_un2 (d1 := pyW i.l) (d2 := pyW i.h) (e_var rfl) (by decide) (by decide) ?_
    refine sd_setd (d := .str "name") (e_t0 (e_var (d := pyE (.name s)) rfl)) (by decide) (sd_yes rfl ?_)
    have h2 : pyT i.h.n (namedF i.kn i.tn i.h s) = pyT i.l.n (namedF i.kn i.tn i.h s) := by rw [hi.n]
    exact sd_retd (e_tupd (e_consd (e_calld ⟨i.kn, i.tn, i.l, s⟩ (e_consd (e_var rfl) (e_consd (e_var rfl) (e_consd (e_t1 (e_var (d := pyE (.name s)) rfl)) e_nil))) ⟨hi.l, he⟩ fun d r => r) (e_consd (e_calld ⟨i.kn, i.tn, i.h, s⟩ (e_consd (e_var rfl) (e_consd (e_var rfl) (e_consd (e_t1 (e_var (d := pyE (.name s)) rfl)) e_nil))) ⟨hi.h, he⟩ fun d r => r.trans h2) e_nil)) (by simp)) rfl
  | same => exact bounds_tail i hi "same" _ rfl (by decide +kernel) (fun _ h => nomatch h) (bounds_made (a := .same) (b := .same) hn (by decide +kernel) rfl rfl rfl rfl rfl)
  | all => exact bounds_tail i hi "all" _ rfl (by decide +kernel) (fun _ h => nomatch h) (bounds_made (a := .all) (b := .all) hn (by decide +kernel) rfl rfl rfl rfl rfl)
  | none => exact bounds_tail i hi "none" _ rfl (by decide +kernel) (fun _ h => nomatch h) (bounds_made (a := .none) (b := .none) hn (by decide +kernel) rfl rfl rfl rfl rfl)
  | plus e f =>
    have hd : max (eDep e) (eDep f) + 1 < m + 1 := hd
    exact bounds_tail i hi "plus" _ rfl (by decide +kernel) (fun x hx => by
      rcases List.mem_cons.mp hx with rfl | hx
      · exact ⟨he.1, by omega⟩
      · rw [List.mem_singleton.mp hx]; exact ⟨he.2, by omega⟩) (bounds_made (tag := "plus") (a := .plus (i.b e).1 (i.b f).1) (b := .plus (i.b e).2 (i.b f).2) hn (by decide +kernel) rfl rfl rfl rfl rfl)
  | both e f =>
    have hd : max (eDep e) (eDep f) + 1 < m + 1 := hd
    exact bounds_tail i hi "both" _ rfl (by decide +kernel) (fun x hx => by
      rcases List.mem_cons.mp hx with rfl | hx
      · exact ⟨he.1, by omega⟩
      · rw [List.mem_singleton.mp hx]; exact ⟨he.2, by omega⟩) (bounds_made (tag := "both") (a := .both (i.b e).1 (i.b f).1) (b := .both (i.b e).2 (i.b f).2) hn (by decide +kernel) rfl rfl rfl rfl rfl)
  | joined e f =>
    have hd : max (eDep e) (eDep f) + 1 < m + 1 := hd
    exact bounds_tail i hi "joined" _ rfl (by decide +kernel) (fun x hx => by
      rcases List.mem_cons.mp hx with rfl | hx
      · exact ⟨he.1, by omega⟩
      · rw [List.mem_singleton.mp hx]; exact ⟨he.2, by omega⟩) (bounds_made (tag := "joined") (a := .joined (i.b e).1 (i.b f).1) (b := .joined (i.b e).2 (i.b f).2) hn (by decide +kernel) rfl rfl rfl rfl rfl)
  | turned e =>
    have hd : eDep e + 1 < m + 1 := hd
    exact bounds_tail i hi "turned" _ rfl (by decide +kernel) (fun x hx => by
      rw [List.mem_singleton.mp hx]; exact ⟨he, by omega⟩) (bounds_made (tag := "turned") (a := .turned (i.b e).1) (b := .turned (i.b e).2) hn (by decide +kernel) rfl rfl rfl rfl rfl)
  | closed e =>
    have hd : eDep e + 1 < m + 1 := hd
    exact bounds_tail i hi "closed" _ rfl (by decide +kernel) (fun x hx => by
      rw [List.mem_singleton.mp hx]; exact ⟨he, by omega⟩) (bounds_made (tag := "closed") (a := .closed (i.b e).1) (b := .closed (i.b e).2) hn (by decide +kernel) rfl rfl rfl rfl rfl)
  | less e f =>
    have hd : max (eDep e) (eDep f) + 1 < m + 1 := hd
    refine bounds_tail i hi "less" _ rfl (by decide +kernel) (fun x hx => by
      rcases List.mem_cons.mp hx with rfl | hx
      · exact ⟨he.1, by omega⟩
      · rw [List.mem_singleton.mp hx]; exact ⟨he.2, by omega⟩) (sd_yes rfl ?_)
    exact sd_retd (e_tupd (e_consd (e_calld (i.l.n, (i.b e).1, (i.b f).2) (e_consd (e_l0 (e_var rfl)) (e_consd (e_l1 (e_var rfl)) e_nil)) trivial fun d r => r) (e_consd (e_calld (i.l.n, (i.b e).2, (i.b f).1) (e_consd (e_l0 (e_var rfl)) (e_consd (e_l1 (e_var rfl)) e_nil)) trivial fun d r => r) e_nil)) (by simp)) rfl
end
end Wf


set_option maxHeartbeats 1000000
/-! What is told. -/
namespace Wf
open PySem PySem.Spec PyProof.Rows L2
section
variable {K : PySem.W.Frag} {N : NP} {es : Env} {te : TE}
theorem less_zero (n : Nat) (f g : F) : decide (enc n (lessF f g) = 0) = sub n f g := by
  rw [Bool.eq_iff_iff, decide_eq_true_iff, sub_iff]
  constructor
  · intro h a b ha hb hf
    rw [enc_none n] at h
    have q := enc_inj h a b ha hb
    unfold lessF noF at q
    rw [hf, Bool.true_and] at q
    cases e : g a b with
    | true => rfl
    | false => rw [e] at q; cases q
  · intro h
    rw [enc_none n]
    refine enc_ext fun a b ha hb => ?_
    unfold lessF noF
    cases e : f a b with
    | false => rfl
    | true => rw [h a b ha hb e]; rfl
theorem sd_told_in (n : Nat) (x y : F × F) : Sd K 99 (t_told_in K) [some (pyB n x), some (pyB n y)] none N fun d => d = optD (oIn n x y) := by
  refine sd_when (b := sub n x.2 y.1) ((t_testd (n_eq (a := enc n (lessF x.2 y.1)) (e_calld (n, x.2, y.1) (e_consd (e_t1 (e_var rfl)) (e_consd (e_t0 (e_var rfl)) e_nil)) trivial fun d r => r) (n_c (n := 0)))).is (less_zero n _ _)) (fun e => ?_) fun e => ?_
  · refine sd_retd e_bl ?_
    unfold oIn
    rw [if_pos e]; rfl
  refine sd_when (b := !sub n x.1 y.2) ((t_testd (n_ne (a := enc n (lessF x.1 y.2)) (e_calld (n, x.1, y.2) (e_consd (e_t0 (e_var rfl)) (e_consd (e_t1 (e_var rfl)) e_nil)) trivial fun d r => r) (n_c (n := 0)))).is (by rw [less_zero])) (fun e2 => ?_) fun e2 => ?_
  · refine sd_retd e_bl ?_
    unfold oIn
    rw [if_neg (by rw [e]; decide), if_neg (by intro z; rw [z] at e2; cases e2)]; rfl
  · refine sd_retd e_non ?_
    unfold oIn
    rw [if_neg (by rw [e]; decide), if_pos (by cases z : sub n x.1 y.2 with | true => rfl | false => rw [z] at e2; cases e2)]; rfl
theorem sd_told_both (x y : Option Bool) : Sd K 99 (t_told_both K) [some (optD x), some (optD y)] none N fun d => d = optD (oBoth x y) := by
  refine sd_when (b := (decide (x = some false) || decide (y = some false))) (t_or (t_testd (e_isX (e_var rfl))) fun _ => t_testd (e_isX (e_var rfl))) (fun e => ?_) fun e => ?_
  · refine sd_retd e_bl ?_
    unfold oBoth
    rw [Bool.or_eq_true, decide_eq_true_iff, decide_eq_true_iff] at e
    rw [if_pos e]; rfl
  have e' : ¬ (x = some false ∨ y = some false) := by
    intro z
    rw [Bool.or_eq_false_iff, decide_eq_false_iff_not, decide_eq_false_iff_not] at e
    rcases z with z | z
    · exact e.1 z
    · exact e.2 z
  refine sd_when (b := (decide (x = none) || decide (y = none))) (t_or ((t_testd (e_isN (e_var rfl))).is (isNone_opt x)) fun _ => (t_testd (e_isN (e_var rfl))).is (isNone_opt y)) (fun e2 => ?_) fun e2 => ?_
  · refine sd_retd e_non ?_
    unfold oBoth
    rw [Bool.or_eq_true, decide_eq_true_iff, decide_eq_true_iff] at e2
    rw [if_neg e', if_pos e2]; rfl
  · refine sd_retd e_bl ?_
    unfold oBoth
    rw [if_neg e', if_neg]
    · rfl
    · intro z
      rw [Bool.or_eq_false_iff, decide_eq_false_iff_not, decide_eq_false_iff_not] at e2
      rcases z with z | z
      · exact e2.1 z
      · exact e2.2 z
theorem sd_told_not (x : Option Bool) : Sd K 99 (t_told_not K) [some (optD x)] none N fun d => d = optD (oNot x) := by
  refine sd_when (b := decide (x = none)) ((t_testd (e_isN (e_var rfl))).is (isNone_opt x)) (fun e => ?_) fun e => ?_
  · rw [decide_eq_true_iff] at e
    subst e
    exact sd_retd e_non rfl
  · cases x with
    | none => cases e
    | some b => exact sd_retd (e_notV (e_var rfl)) rfl
theorem bools_of {α : Type} (l : List α) (p : α → Bool) : l.map (fun x => PyData.bool (p x)) = (l.map p).map PyData.bool := by rw [List.map_map]; rfl
theorem e_allm {l : List Nat} {p : Nat → Bool} (h : Ed K te es (.list (l.map fun x => .bool (p x)))) : Ed K (tCB (rAll K) (tCons te tNil)) es (.bool (l.all p)) :=
  (e_all (bs := l.map p) (h.is (by rw [bools_of]))).is (by rw [List.all_map]; rfl)
theorem e_anym {l : List Nat} {p : Nat → Bool} (h : Ed K te es (.list (l.map fun x => .bool (p x)))) : Ed K (tCB (rAny K) (tCons te tNil)) es (.bool (l.any p)) :=
  (e_any (bs := l.map p) (h.is (by rw [bools_of]))).is (by rw [List.any_map]; rfl)
theorem sd_told_least (low high : List Nat) (k : Nat) (h1 : low.length ≤ 4) (h2 : high.length ≤ 4) : Sd K 99 (t_told_least K) [some (.list (low.map nI)), some (.list (high.map nI)), some (nI k), none] none N fun d => d = optD (oLeast low high k) := by
  refine sd_when (t_Bd (e_allm (p := fun x => decide (k ≤ x)) (e_lcLm (l := low) (f := nI) (e_var rfl) (by omega) (by decide) fun a _ => n_ge (e_var (d := nI a) rfl) (e_var (d := nI k) rfl)))) (fun e => ?_) fun e => ?_
  · refine sd_retd e_bl ?_
    unfold oLeast
    rw [if_pos e]; rfl
  refine sd_when (t_Bd (e_anym (p := fun x => decide (x < k)) (e_lcLm (l := high) (f := nI) (e_var rfl) (by omega) (by decide) fun a _ => n_lt (e_var (d := nI a) rfl) (e_var (d := nI k) rfl)))) (fun e2 => ?_) fun e2 => ?_
  · refine sd_retd e_bl ?_
    unfold oLeast
    rw [if_neg (by rw [e]; decide), if_pos e2]; rfl
  · refine sd_retd e_non ?_
    unfold oLeast
    rw [if_neg (by rw [e]; decide), if_neg (by rw [e2]; decide)]; rfl
theorem sd_told_most (low high : List Nat) (k : Nat) (h1 : low.length ≤ 4) (h2 : high.length ≤ 4) : Sd K 99 (t_told_most K) [some (.list (low.map nI)), some (.list (high.map nI)), some (nI k), none] none N fun d => d = optD (oMost low high k) := by
  refine sd_when (t_Bd (e_allm (p := fun x => decide (x ≤ k)) (e_lcLm (l := high) (f := nI) (e_var rfl) (by omega) (by decide) fun a _ => n_le (e_var (d := nI a) rfl) (e_var (d := nI k) rfl)))) (fun e => ?_) fun e => ?_
  · refine sd_retd e_bl ?_
    unfold oMost
    rw [if_pos e]; rfl
  refine sd_when (t_Bd (e_anym (p := fun x => decide (k < x)) (e_lcLm (l := low) (f := nI) (e_var rfl) (by omega) (by decide) fun a _ => n_gt (e_var (d := nI a) rfl) (e_var (d := nI k) rfl)))) (fun e2 => ?_) fun e2 => ?_
  · refine sd_retd e_bl ?_
    unfold oMost
    rw [if_neg (by rw [e]; decide), if_pos e2]; rfl
  · refine sd_retd e_non ?_
    unfold oMost
    rw [if_neg (by rw [e]; decide), if_neg (by rw [e2]; decide)]; rfl
/-! ### told_fact -/
theorem sum_cast : ∀ l : List Nat, (l.map fun x : Nat => (x : Int)).sum = ((l.sum : Nat) : Int)
  | [] => rfl
  | x :: r => by rw [List.map_cons, List.sum_cons, List.sum_cons, sum_cast r, Int.natCast_add]
theorem n_sum {l : List Nat} (h : Ed K te es (.list (l.map nI))) : Ed K (tCB (rSum K) (tCons te tNil)) es (nI l.sum) :=
  (e_sum (ns := l.map fun x : Nat => (x : Int)) (h.is (by rw [List.map_map]; rfl))).is (congrArg PyData.int (sum_cast l))
theorem nums_len (n : Nat) (f : F) : (nums n f).length = n := by unfold nums; rw [List.length_map, List.length_range]
abbrev envF (i : IB) (s : Sg) (w : Str) (e : E) : Env := [some (nI i.l.n), some (pyS s), some (.list ((parts s).map fun e => pyB i.l.n (i.b e))), some (.str w), some (pyT i.l.n (i.b e).1), some (pyT i.l.n (i.b e).2), some (.list ((nums i.l.n (i.b e).1).map nI)), some (.list ((nums i.l.n (i.b e).2).map nI))]
/-- a fact of one expression, up to the counts -/
theorem fact_counts {i : IB} {s : Sg} {w : Str} {e : E} {tz : TS} {R : PyData → Prop} (hn : i.l.n ≤ 4) {r : List PyData} (hs : pyS s = .tuple (.str w :: r)) (hp : parts s = [e]) (h1 : decide (w = "in") = false) (h2 : decide (w = "equal") = false)
    (k : Sd K 99 tz (envF i s w e) none N R) :
    Sd K 99 (tSeq (tAsg (tOp (rIxT K) (tVar 1) (tC (.int 0))) (gName 3))
    (tSeq (tIfS (tTest (tOp rEq (tVar 3) (tC (.str "in")))) (tRet (tCall (sp_told_in K) [] E0 (tCons (tOp (rIxL K) (tVar 2) (tC (.int 0))) (tCons (tOp (rIxL K) (tVar 2) (tC (.int 1))) tNil)))) tNext)
    (tSeq (tIfS (tTest (tOp rEq (tVar 3) (tC (.str "equal")))) (tRet (tCall (sp_told_both K) [] E0 (tCons (tCall (sp_told_in K) [] E0 (tCons (tOp (rIxL K) (tVar 2) (tC (.int 0))) (tCons (tOp (rIxL K) (tVar 2) (tC (.int 1))) tNil))) (tCons (tCall (sp_told_in K) [] E0 (tCons (tOp (rIxL K) (tVar 2) (tC (.int 1))) (tCons (tOp (rIxL K) (tVar 2) (tC (.int 0))) tNil))) tNil)))) tNext)
    (tSeq (tAsg (tOp (rIxL K) (tVar 2) (tC (.int 0))) (gTup K 2 (gCons (gName 4) (gCons (gName 5) gNil))))
    (tSeq (tAsg (tCall (sp_tied_numbers K) [] E0 (tCons (tVar 0) (tCons (tVar 4) tNil))) (gName 6))
    (tSeq (tAsg (tCall (sp_tied_numbers K) [] E0 (tCons (tVar 0) (tCons (tVar 5) tNil))) (gName 7)) tz))))))
    [some (nI i.l.n), some (pyS s), some (.list ((parts s).map fun e => pyB i.l.n (i.b e))), none, none, none, none, none] none N R := by
  refine sd_setd (d := .str w) (e_t0 ((e_var (d := pyS s) rfl).is hs)) (by decide) ?_
  refine sd_no (x := w) rfl h1 (sd_no (x := w) rfl h2 ?_)
  refine sd_un2 (d1 := pyT i.l.n (i.b e).1) (d2 := pyT i.l.n (i.b e).2) (e_l0 (x := pyB i.l.n (i.b e)) (r := []) ((e_var (d := .list ((parts s).map fun e => pyB i.l.n (i.b e))) rfl).is (by rw [hp]; rfl))) (by decide) (by decide) ?_
  refine sd_set (e_callr (i.l.n, (i.b e).1) (e_consd (e_var rfl) (e_consd (e_var rfl) e_nil)) hn) (by decide) fun d r => ?_
  subst r
  refine sd_set (e_callr (i.l.n, (i.b e).2) (e_consd (e_var rfl) (e_consd (e_var rfl) e_nil)) hn) (by decide) fun d r => ?_
  subst r
  exact k
theorem sd_told_fact (i : IB) (s : Sg) (hn : i.l.n ≤ 4) (hf : isFact s = true) :
    Sd K 99 (t_told_fact K) [some (nI i.l.n), some (pyS s), some (.list ((parts s).map fun e => pyB i.l.n (i.b e))), none, none, none, none, none] none N fun d => d = optD (i.t s) := by
  have len1 : ∀ f : F, (nums i.l.n f).length ≤ 4 := fun f => by rw [nums_len]; exact hn
  cases s with
  | not s => cases hf
  | and s t => cases hf
  | or s t => cases hf
  | inn e f =>
    refine sd_setd (d := .str "in") (e_t0 (e_var (d := pyS (.inn e f)) rfl)) (by decide) (sd_yes rfl ?_)
    exact sd_ret (e_calld (i.l.n, i.b e, i.b f) (e_consd (e_l0 (e_var rfl)) (e_consd (e_l1 (e_var rfl)) e_nil)) trivial fun d r => r)
  | equal e f =>
    refine sd_setd (d := .str "equal") (e_t0 (e_var (d := pyS (.equal e f)) rfl)) (by decide) (sd_no (x := "equal") rfl (by decide +kernel) (sd_yes rfl ?_))
    exact sd_ret (e_calld (oIn i.l.n (i.b e) (i.b f), oIn i.l.n (i.b f) (i.b e)) (e_consd (e_calld (i.l.n, i.b e, i.b f) (e_consd (e_l0 (e_var rfl)) (e_consd (e_l1 (e_var rfl)) e_nil)) trivial fun d r => r)
      (e_consd (e_calld (i.l.n, i.b f, i.b e) (e_consd (e_l1 (e_var rfl)) (e_consd (e_l0 (e_var rfl)) e_nil)) trivial fun d r => r) e_nil)) trivial fun d r => r)
  | eachleast k e =>
    refine fact_counts (w := "eachleast") (e := e) hn rfl rfl (by decide +kernel) (by decide +kernel) (sd_yes rfl ?_)
    exact sd_ret (e_calld (nums i.l.n (i.b e).1, nums i.l.n (i.b e).2, k) (e_consd (e_var rfl) (e_consd (e_var rfl) (e_consd (e_t1 (e_var (d := pyS (.eachleast k e)) rfl)) e_nil))) ⟨len1 _, len1 _⟩ fun d r => r)
  | eachmost k e =>
    refine fact_counts (w := "eachmost") (e := e) hn rfl rfl (by decide +kernel) (by decide +kernel) (sd_no (x := "eachmost") rfl (by decide +kernel) (sd_yes rfl ?_))
    exact sd_ret (e_calld (nums i.l.n (i.b e).1, nums i.l.n (i.b e).2, k) (e_consd (e_var rfl) (e_consd (e_var rfl) (e_consd (e_t1 (e_var (d := pyS (.eachmost k e)) rfl)) e_nil))) ⟨len1 _, len1 _⟩ fun d r => r)
  | some e =>
    refine fact_counts (w := "some") (e := e) hn rfl rfl (by decide +kernel) (by decide +kernel) (sd_no (x := "some") rfl (by decide +kernel) (sd_no (x := "some") rfl (by decide +kernel) (sd_yes rfl ?_)))
    exact sd_ret (e_calld ([(nums i.l.n (i.b e).1).sum], [(nums i.l.n (i.b e).2).sum], 1) (e_consd (e_lstd (e_consd (n_sum (e_var rfl)) e_nil) (by simp)) (e_consd (e_lstd (e_consd (n_sum (e_var rfl)) e_nil) (by simp)) (e_consd (n_c (n := 1)) e_nil))) ⟨by simp, by simp⟩ fun d r => r)
  | no e =>
    refine fact_counts (w := "no") (e := e) hn rfl rfl (by decide +kernel) (by decide +kernel) (sd_no (x := "no") rfl (by decide +kernel) (sd_no (x := "no") rfl (by decide +kernel) (sd_no (x := "no") rfl (by decide +kernel) (sd_yes rfl ?_))))
    exact sd_ret (e_calld ([(nums i.l.n (i.b e).1).sum], [(nums i.l.n (i.b e).2).sum], 0) (e_consd (e_lstd (e_consd (n_sum (e_var rfl)) e_nil) (by simp)) (e_consd (e_lstd (e_consd (n_sum (e_var rfl)) e_nil) (by simp)) (e_consd (n_c (n := 0)) e_nil))) ⟨by simp, by simp⟩ fun d r => r)
  | least k e =>
    refine fact_counts (w := "least") (e := e) hn rfl rfl (by decide +kernel) (by decide +kernel) (sd_no (x := "least") rfl (by decide +kernel) (sd_no (x := "least") rfl (by decide +kernel) (sd_no (x := "least") rfl (by decide +kernel) (sd_no (x := "least") rfl (by decide +kernel) (sd_yes rfl ?_)))))
    exact sd_ret (e_calld ([(nums i.l.n (i.b e).1).sum], [(nums i.l.n (i.b e).2).sum], k) (e_consd (e_lstd (e_consd (n_sum (e_var rfl)) e_nil) (by simp)) (e_consd (e_lstd (e_consd (n_sum (e_var rfl)) e_nil) (by simp)) (e_consd (e_t1 (e_var (d := pyS (.least k e)) rfl)) e_nil))) ⟨by simp, by simp⟩ fun d r => r)
  | most k e =>
    refine fact_counts (w := "most") (e := e) hn rfl rfl (by decide +kernel) (by decide +kernel) (sd_no (x := "most") rfl (by decide +kernel) (sd_no (x := "most") rfl (by decide +kernel) (sd_no (x := "most") rfl (by decide +kernel) (sd_no (x := "most") rfl (by decide +kernel) (sd_no (x := "most") rfl (by decide +kernel) ?_)))))
    exact sd_ret (e_calld ([(nums i.l.n (i.b e).1).sum], [(nums i.l.n (i.b e).2).sum], k) (e_consd (e_lstd (e_consd (n_sum (e_var rfl)) e_nil) (by simp)) (e_consd (e_lstd (e_consd (n_sum (e_var rfl)) e_nil) (by simp)) (e_consd (e_t1 (e_var (d := pyS (.most k e)) rfl)) e_nil))) ⟨by simp, by simp⟩ fun d r => r)
/-! ### told -/
def argD : Nat ⊕ E → PyData
  | .inl k => nI k
  | .inr e => pyE e
def isE : Nat ⊕ E → Bool
  | .inl _ => false
  | .inr _ => true
theorem tyD_pyE (e : E) : tyD (pyE e) = "tuple" := by cases e <;> rfl
theorem notdict_pyE (e : E) : ∀ kvs, pyE e ≠ .dict kvs := by cases e <;> exact fun _ z => nomatch z
/-- a fact -/
theorem told_fact_tail {m : Nat} {i : IB} {s : Sg} {w : Str} {l : List (Nat ⊕ E)} (hi : i.Ok) (hf : isFact s = true) (hs : pyS s = .tuple (.str w :: l.map argD)) (hl : l.length ≤ 10) (hk : ∀ e, e ∈ parts s → eOk (i.kn ++ i.tn) e ∧ eDep e < 9)
    (hp : (l.filter isE).map (fun a => match a with | .inl _ => PyData.none | .inr e => pyB i.l.n (i.b e)) = (parts s).map fun e => pyB i.l.n (i.b e)) (hm : ∀ e, .inr e ∈ l → e ∈ parts s)
    (h1 : decide (w = "not") = false) (h2 : decide (w = "and") = false) (h3 : decide (w = "or") = false) :
    Sd K 99 (t_told K m) [some (pyQ i.kn i.tn), some (.tuple [pyW i.l, pyW i.h]), some (pyS s), none, none, none, none] none N fun d => d = optD (i.t s) := by
  refine sd_setd (d := .str w) (e_t0 ((e_var (d := pyS s) rfl).is hs)) (by decide) ?_
  refine sd_no (x := w) rfl h1 (sd_no (x := w) rfl h2 (sd_no (x := w) rfl h3 ?_))
  refine sd_setd (d := .list ((parts s).map fun e => pyB i.l.n (i.b e))) ?_ (by decide) ?_
  · refine (e_lcTfm (l := l) (f := argD) (p := isE) (g := fun a => match a with | .inl _ => PyData.none | .inr e => pyB i.l.n (i.b e)) (xs := l.map argD) ?_ rfl (by omega) (by decide) (fun a ha => ?_) fun a ha hp => ?_).is (by rw [hp])
    · exact (e_slT (lo := some 1) (hi := none) ((e_var (d := pyS s) rfl).is hs) (o_some e_int) o_none).is (by rw [cut_tail])
    · cases a with
      | inl k => exact t_Bd (e_isi (e_var (d := nI k) rfl) k_it fun _ z => nomatch z)
      | inr e => exact t_Bd (e_isi (e_var (d := pyE e) rfl) (by rw [tyD_pyE]; exact k_tt) (notdict_pyE e))
    · cases a with
      | inl k => cases hp
      | inr e => exact e_calld (i, e) (e_consd (e_var rfl) (e_consd (e_var rfl) (e_consd (e_var rfl) e_nil))) ⟨hi, hk e (hm e ha)⟩ fun d r => r
  exact sd_ret (e_calld (i, s) (e_consd (e_t0 (e_t0 (e_var rfl))) (e_consd (e_var rfl) (e_consd (e_var rfl) e_nil))) ⟨hi.l.n, hf⟩ fun d r => r)
theorem sd_told {m : Nat} (i : IB) (s : Sg) (hi : i.Ok) (hs : sOk (i.kn ++ i.tn) s) (hd : sDep s < m + 1) :
    Sd K 99 (t_told K m) [some (pyQ i.kn i.tn), some (.tuple [pyW i.l, pyW i.h]), some (pyS s), none, none, none, none] none N fun d => d = optD (i.t s) := by
  cases s with
  | not s =>
    have hd : sDep s + 1 < m + 1 := hd
    have d1 : sDep s < m := by omega
    refine sd_setd (d := .str "not") (e_t0 (e_var (d := pyS (.not s)) rfl)) (by decide) (sd_yes rfl ?_)
    exact sd_ret (e_calld (i.t s) (e_consd (e_calld (i, s) (e_consd (e_var rfl) (e_consd (e_var rfl) (e_consd (e_t1 (e_var (d := pyS (.not s)) rfl)) e_nil))) ⟨hi, hs, d1⟩ fun d r => r) e_nil) trivial fun d r => r)
  | and s t =>
    have hd : max (sDep s) (sDep t) + 1 < m + 1 := hd
    have d1 : sDep s < m := by omega
    have d2 : sDep t < m := by omega
    refine sd_setd (d := .str "and") (e_t0 (e_var (d := pyS (.and s t)) rfl)) (by decide) (sd_no (x := "and") rfl (by decide +kernel) (sd_yes rfl ?_))
    exact sd_ret (e_calld (i.t s, i.t t) (e_consd (e_calld (i, s) (e_consd (e_var rfl) (e_consd (e_var rfl) (e_consd (e_t1 (e_var (d := pyS (.and s t)) rfl)) e_nil))) ⟨hi, hs.1, d1⟩ fun d r => r)
      (e_consd (e_calld (i, t) (e_consd (e_var rfl) (e_consd (e_var rfl) (e_consd (e_t2 (e_var (d := pyS (.and s t)) rfl)) e_nil))) ⟨hi, hs.2, d2⟩ fun d r => r) e_nil)) trivial fun d r => r)
  | or s t =>
    have hd : max (sDep s) (sDep t) + 1 < m + 1 := hd
    have d1 : sDep s < m := by omega
    have d2 : sDep t < m := by omega
    refine sd_setd (d := .str "or") (e_t0 (e_var (d := pyS (.or s t)) rfl)) (by decide) (sd_no (x := "or") rfl (by decide +kernel) (sd_no (x := "or") rfl (by decide +kernel) (sd_yes rfl ?_)))
    refine sd_set (e_callr (i.t s) (e_consd (e_calld (i, s) (e_consd (e_var rfl) (e_consd (e_var rfl) (e_consd (e_t1 (e_var (d := pyS (.or s t)) rfl)) e_nil))) ⟨hi, hs.1, d1⟩ fun d r => r) e_nil) trivial) (by decide) fun d r => ?_
    subst r
    refine sd_set (e_callr (i.t t) (e_consd (e_calld (i, t) (e_consd (e_var rfl) (e_consd (e_var rfl) (e_consd (e_t2 (e_var (d := pyS (.or s t)) rfl)) e_nil))) ⟨hi, hs.2, d2⟩ fun d r => r) e_nil) trivial) (by decide) fun d r => ?_
    subst r
    exact sd_ret (e_calld (oBoth (oNot (i.t s)) (oNot (i.t t))) (e_consd (e_calld (oNot (i.t s), oNot (i.t t)) (e_consd (e_var rfl) (e_consd (e_var rfl) e_nil)) trivial fun d r => r) e_nil) trivial fun d r => r)
  | inn e f => exact told_fact_tail (l := [.inr e, .inr f]) hi rfl rfl (by simp) hs rfl (by simp [parts]) (by decide +kernel) (by decide +kernel) (by decide +kernel)
  | equal e f => exact told_fact_tail (l := [.inr e, .inr f]) hi rfl rfl (by simp) hs rfl (by simp [parts]) (by decide +kernel) (by decide +kernel) (by decide +kernel)
  | some e => exact told_fact_tail (l := [.inr e]) hi rfl rfl (by simp) hs rfl (by simp [parts]) (by decide +kernel) (by decide +kernel) (by decide +kernel)
  | no e => exact told_fact_tail (l := [.inr e]) hi rfl rfl (by simp) hs rfl (by simp [parts]) (by decide +kernel) (by decide +kernel) (by decide +kernel)
  | least k e => exact told_fact_tail (l := [.inl k, .inr e]) hi rfl rfl (by simp) hs rfl (by simp [parts]) (by decide +kernel) (by decide +kernel) (by decide +kernel)
  | most k e => exact told_fact_tail (l := [.inl k, .inr e]) hi rfl rfl (by simp) hs rfl (by simp [parts]) (by decide +kernel) (by decide +kernel) (by decide +kernel)
  | eachleast k e => exact told_fact_tail (l := [.inl k, .inr e]) hi rfl rfl (by simp) hs rfl (by simp [parts]) (by decide +kernel) (by decide +kernel) (by decide +kernel)
  | eachmost k e => exact told_fact_tail (l := [.inl k, .inr e]) hi rfl rfl (by simp) hs rfl (by simp [parts]) (by decide +kernel) (by decide +kernel) (by decide +kernel)
end
end Wf


set_option maxHeartbeats 1000000
/-! The law's own reckoning: grids. -/
namespace Wf
open PySem PySem.Spec PyProof.Rows L2
section
variable {K : PySem.W.Frag} {N : NP} {es : Env} {te ta tb tc : TE} {tA : TA}
theorem bit_nat (t i : Nat) : (t >>> i) &&& 1 = (t.testBit i).toNat := by
  have h := one_bit t i
  have h2 : (t >>> i) &&& 1 = 0 ∨ (t >>> i) &&& 1 = 1 := by
    rw [Nat.and_one_is_mod]; omega
  rcases h2 with h2 | h2
  · rw [h2] at h ⊢
    rw [← h]; rfl
  · rw [h2] at h ⊢
    rw [← h]; rfl
theorem n_intB {b : Bool} (h : Ed K te es (.bool b)) : Ed K (tCB rInt1 (tCons te tNil)) es (nI b.toNat) := (e_intB h).is (by cases b <;> rfl)
/-- a row of a grid -/
abbrev rowG (n : Nat) (f : F) (a : Nat) : PyData := .list ((List.range n).map fun b => nI (f a b).toNat)
theorem get_range {n a : Nat} {g : Nat → PyData} (h : a < n) : ((List.range n).map g)[a]? = some (g a) := by
  rw [List.getElem?_map, List.getElem?_range h]; rfl
theorem e_row {n : Nat} {f : F} {a : Nat} (ha : Ed K ta es (pyG n f)) (hb : Ed K tb es (nI a)) (h : a < n) : Ed K (tOp (rIxL K) ta tb) es (rowG n f a) := e_lk ha hb (get_range h)
theorem e_cell {n : Nat} {f : F} {a b : Nat} (ha : Ed K ta es (pyG n f)) (hb : Ed K tb es (nI a)) (hc : Ed K tc es (nI b)) (h1 : a < n) (h2 : b < n) : Ed K (tOp (rIxL K) (tOp (rIxL K) ta tb) tc) es (nI (f a b).toNat) :=
  e_lk (e_row ha hb h1) hc (get_range h2)
theorem e_lenG {n : Nat} {f : F} (h : Ed K te es (pyG n f)) : Ed K (tCB (qLen K) (tCons te tNil)) es (nI n) :=
  (e_lenSeq (d := .none) (h.weak fun x e => .inl e)).is (by rw [List.length_map, List.length_range])
/-- a grid made place by place -/
theorem e_grid {n : Nat} {f : F} {t1 t2 : TA} {i1 i2 : Nat} {vs1 vs2 : List Nat} (hn : n ≤ 4) (h1 : EdA K t1 es [nI n]) (hi1 : i1 ∈ vs1) (hi2 : i2 ∈ vs2) (h2 : ∀ a, a < n → EdA K t2 ((wipeE es vs1).set i1 (some (nI a))) [nI n])
    (he : ∀ a b, a < n → b < n → Ed K te ((wipeE ((wipeE es vs1).set i1 (some (nI a))) vs2).set i2 (some (nI b))) (nI (f a b).toNat)) :
    Ed K (tLc (iRng1 t1) (gName i1) tYes (tLc (iRng1 t2) (gName i2) tYes te vs2) vs1) es (pyG n f) :=
  e_lcRn (g := fun a => rowG n f a) h1 (by omega) hi1 fun a ha => e_lcRn (g := fun b => nI (f a b).toNat) (h2 a ha) (by omega) hi2 fun b hb => he a b ha hb
theorem sd__law_grid (n : Nat) (f : F) (hn : n ≤ 4) : Sd K 99 (t__law_grid K) [some (nI n), some (pyT n f), none, none] none N fun d => d = pyG n f := by
  refine sd_retd (e_grid hn (e_consd (e_var rfl) e_nil) (by decide) (by decide) (fun a _ => e_consd (e_var rfl) e_nil) fun a b ha hb => ?_) rfl
  refine (n_and (n_shr (a := enc n f) (e_var rfl) (n_add (n_mul (a := a) (b := n) (e_var rfl) (e_var rfl) (by omega)) (e_var (d := nI b) rfl))) (n_c (n := 1))).is ?_
  rw [bit_nat, enc_at f ha hb]
theorem sd__law_named (kn tn : List Str) (w : Wd) (s : Str) (ok : WOk kn tn w) (hs : s ∈ kn ++ tn) : Sd K 99 (t__law_named K) [some (pyQ kn tn), some (pyW w), some (.str s), none, none, none, none] none N fun d => d = pyG w.n (namedF kn tn w s) := by
  refine sd_setd (d := nI w.n) (e_t0 (e_var rfl)) (by decide) ?_
  refine sd_when (b := decide (s ∈ kn)) (t_testd (e_inS (e_var rfl) ((e_t0 (x := pyN kn) (e_var rfl)).weak fun d e => .inr (.inr e)))) (fun e => ?_) fun e => ?_
  · have hk := of_decide_eq_true e
    refine sd_setd (d := nI (w.ks.getD (at_ s kn) 0)) (e_tk (e_t1 (y := .tuple (w.ks.map nI)) (e_var rfl)) (e_tix (e_t0 (x := pyN kn) (e_var rfl)) (e_var rfl) (at_get hk) at_first) (getD_map (by rw [ok.ks]; exact at_lt hk))) (by decide) ?_
    refine sd_retd (e_grid (n := w.n) ok.n (e_consd (e_var rfl) e_nil) (by decide) (by decide) (fun a _ => e_consd (e_var rfl) e_nil) fun a b ha hb => ?_) rfl
    refine (n_and (n_shr (a := w.ks.getD (at_ s kn) 0) (b := a) (e_var rfl) (e_var rfl)) (n_intB (n_eq (a := a) (b := b) (e_var rfl) (e_var rfl)))).is ?_
    rw [named_kind hk]
    unfold kindF
    by_cases h : a = b
    · subst h
      rw [decide_eq_true rfl, show true.toNat = 1 from rfl, bit_nat, beq_self_eq_true, Bool.true_and]
    · rw [decide_eq_false h, show false.toNat = 0 from rfl, Nat.and_zero, beq_eq_false_iff_ne.mpr h]; rfl
  · have hk := of_decide_eq_false e
    have ht : s ∈ tn := by
      rcases List.mem_append.mp hs with h | h
      · exact absurd h hk
      · exact h
    refine sd_ret (e_calld (w.n, namedF kn tn w s) (e_consd (e_var rfl) (e_consd ((e_tk (e_t2 (z := .tuple (w.ts.map nI)) (e_var rfl)) (e_tix (e_t1 (y := pyN tn) (e_var rfl)) (e_var rfl) (at_get ht) at_first) (getD_map (by rw [ok.ts]; exact at_lt ht))).is ?_) e_nil)) ok.n fun d r => r)
    rw [named_enc ok hk ht]
theorem sd__law_closed (n : Nat) (f : F) (hn : n ≤ 4) : Sd K 99 (t__law_closed K) [some (pyG n f), none, none, none, none, none] none N fun d => d = pyG n (closedW n f) := by
  refine sd_setd (d := pyG n f) (e_lcLm (l := List.range n) (f := fun a => rowG n f a) (g := fun a => rowG n f a) (e_var rfl) (by rw [List.length_range]; omega) (by decide) fun a _ => e_listOf ((e_var (d := rowG n f a) rfl).weak fun d e => .inl e)) (by decide) ?_
  refine sd_seq (sd_forR (n := (n : Int)) (e_consd (e_lenG (f := f) (e_var rfl)) e_nil) (by decide) (fun k es o => ∃ x, es = [some (pyG n f), some (pyG n (warF f k)), x, none, none, none] ∧ o = none) ⟨none, rfl, rfl⟩ ?_ ?_)
  · rintro k es1 o1 hk ⟨x, rfl, rfl⟩
    have hk : k < n := by omega
    refine sd_asg (e_grid (f := warF f (k + 1)) hn (e_consd (e_lenG (f := f) (e_var rfl)) e_nil) (by decide) (by decide) (fun a _ => e_consd (e_lenG (f := f) (e_var rfl)) e_nil) fun a b ha hb => ?_) (by decide) fun d e => ?_
    · refine (n_or (e_cell (f := warF f k) (a := a) (b := b) (e_var rfl) (e_var rfl) (e_var rfl) ha hb) (n_and (e_cell (f := warF f k) (a := a) (b := k) (e_var rfl) (e_var rfl) (e_var rfl) ha hk) (e_cell (f := warF f k) (a := k) (b := b) (e_var rfl) (e_var rfl) (e_var rfl) hk hb))).is ?_
      show nI _ = nI (warF f k a b || (warF f k a k && warF f k k b)).toNat
      cases warF f k a b <;> cases warF f k a k <;> cases warF f k k b <;> rfl
    · subst e
      exact ⟨some (nI k), rfl, rfl⟩
  · rintro es1 o1 ⟨x, rfl, rfl⟩
    exact sd_retd (e_var rfl) rfl
theorem sd__law_two (n : Nat) (f g : F) (w : Tw) (hn : n ≤ 4) : Sd K 99 (t__law_two K) [some (.str (twN w)), some (pyG n f), some (pyG n g), none, none, none, none] none N fun d => d = pyG n (twF n f g w) := by
  refine sd_setd (d := nI n) (e_lenG (f := f) (e_var rfl)) (by decide) ?_
  cases w with
  | joined =>
    refine sd_yes (x := "joined") rfl (sd_retd (e_grid hn (e_consd (e_var rfl) e_nil) (by decide) (by decide) (fun a _ => e_consd (e_var rfl) e_nil) fun a b ha hb => ?_) rfl)
    refine e_max (ns := (List.range n).map fun k => (((f a k && g k b).toNat : Nat) : Int)) ((e_lcRn (n := n) (g := fun k => nI (f a k && g k b).toNat) (e_consd (e_var rfl) e_nil) (by omega) (by decide) fun k hk => ?_).is (by rw [List.map_map]; rfl)) ?_ ?_
    · refine (n_and (e_cell (f := f) (a := a) (b := k) (e_var rfl) (e_var rfl) (e_var rfl) ha hk) (e_cell (f := g) (a := k) (b := b) (e_var rfl) (e_var rfl) (e_var rfl) hk hb)).is ?_
      cases f a k <;> cases g k b <;> rfl
    · show (((joinF n f g a b).toNat : Nat) : Int) ∈ _
      cases h : joinF n f g a b with
      | true =>
        obtain ⟨k, hk, h1, h2⟩ := joinF_iff.mp h
        exact List.mem_map.mpr ⟨k, List.mem_range.mpr hk, by rw [h1, h2]; rfl⟩
      | false =>
        refine List.mem_map.mpr ⟨a, List.mem_range.mpr ha, ?_⟩
        have : (f a a && g a b) = false := by
          cases q : (f a a && g a b) with
          | false => rfl
          | true =>
            rw [Bool.and_eq_true] at q
            rw [joinF_iff.mpr ⟨a, ha, q.1, q.2⟩] at h
            cases h
        rw [this]
    · intro y hy
      obtain ⟨k, hk, rfl⟩ := List.mem_map.mp hy
      show (((f a k && g k b).toNat : Nat) : Int) ≤ (((joinF n f g a b).toNat : Nat) : Int)
      cases q : (f a k && g k b) with
      | false => cases joinF n f g a b <;> decide
      | true =>
        rw [Bool.and_eq_true] at q
        rw [joinF_iff.mpr ⟨k, List.mem_range.mp hk, q.1, q.2⟩]
        decide
  | plus =>
    refine sd_no (x := "plus") rfl (by decide +kernel) (sd_yes rfl (sd_retd (e_grid hn (e_consd (e_var rfl) e_nil) (by decide) (by decide) (fun a _ => e_consd (e_var rfl) e_nil) fun a b ha hb => ?_) rfl))
    refine (n_or (e_cell (f := f) (a := a) (b := b) (e_var rfl) (e_var rfl) (e_var rfl) ha hb) (e_cell (f := g) (a := a) (b := b) (e_var rfl) (e_var rfl) (e_var rfl) ha hb)).is ?_
    show nI _ = nI (f a b || g a b).toNat
    cases f a b <;> cases g a b <;> rfl
  | both =>
    refine sd_no (x := "both") rfl (by decide +kernel) (sd_no (x := "both") rfl (by decide +kernel) (sd_yes rfl (sd_retd (e_grid hn (e_consd (e_var rfl) e_nil) (by decide) (by decide) (fun a _ => e_consd (e_var rfl) e_nil) fun a b ha hb => ?_) rfl)))
    refine (n_and (e_cell (f := f) (a := a) (b := b) (e_var rfl) (e_var rfl) (e_var rfl) ha hb) (e_cell (f := g) (a := a) (b := b) (e_var rfl) (e_var rfl) (e_var rfl) ha hb)).is ?_
    show nI _ = nI (f a b && g a b).toNat
    cases f a b <;> cases g a b <;> rfl
  | less =>
    refine sd_no (x := "less") rfl (by decide +kernel) (sd_no (x := "less") rfl (by decide +kernel) (sd_no (x := "less") rfl (by decide +kernel) (sd_retd (e_grid hn (e_consd (e_var rfl) e_nil) (by decide) (by decide) (fun a _ => e_consd (e_var rfl) e_nil) fun a b ha hb => ?_) rfl)))
    refine (n_and (e_cell (f := f) (a := a) (b := b) (e_var rfl) (e_var rfl) (e_var rfl) ha hb) (n_sub (n_c (n := 1)) (e_cell (f := g) (a := a) (b := b) (e_var rfl) (e_var rfl) (e_var rfl) ha hb) (by cases g a b <;> decide))).is ?_
    show nI _ = nI (f a b && !g a b).toNat
    cases f a b <;> cases g a b <;> rfl
/-! ### value -/
theorem b_aa : decide (("all" : Str) = "all") = true := by decide +kernel
theorem b_sa : decide (("same" : Str) = "all") = false := by decide +kernel
theorem b_ss : decide (("same" : Str) = "same") = true := by decide +kernel
theorem b_na : decide (("none" : Str) = "all") = false := by decide +kernel
theorem b_ns : decide (("none" : Str) = "same") = false := by decide +kernel
abbrev envV (i : IV) (e : E) (w : Str) : Env := [some (pyQ i.kn i.tn), some (pyW i.w), some (pyE e), some (nI i.w.n), some (.str w), none, none, none]
theorem e_lenE {e : E} {l : List PyData} (h : Ed K te es (pyE e)) (hp : pyE e = .tuple l) : Ed K (tCB (qLen K) (tCons te tNil)) es (nI l.length) := e_lenSeq (d := .none) (h.weak fun x q => .inr (.inl (by rw [q, hp])))
theorem value_const {i : IV} {e : E} {w : Str} {f : F} {tz : TS} {R : PyData → Prop} (hn : i.w.n ≤ 4) (hp : pyE e = .tuple [.str w]) (hf : ∀ a b, (decide (w = "all") || (decide (w = "same") && decide (a = b))) = f a b) (r : R (pyG i.w.n f)) :
    Sd K 99 (tSeq (tIfS (tTest (tOp rEq (tCB (qLen K) (tCons (tVar 2) tNil)) (tC (.int 1)))) (tRet (tLc (iRng1 (tCons (tVar 3) tNil)) (gName 6) tYes (tLc (iRng1 (tCons (tVar 3) tNil)) (gName 7) tYes (tCB rInt1 (tCons (tOrV (tOp rEq (tVar 4) (tC (.str "all"))) (tAndV (tOp rEq (tVar 4) (tC (.str "same"))) (tOp rEq (tVar 6) (tVar 7)))) tNil)) [7]) [6])) tNext) tz)
      (envV i e w) none N R := by
  refine sd_when (b := true) ((t_testd (n_eq (e_lenE (e := e) (e_var rfl) hp) (n_c (n := 1)))).is rfl) (fun _ => ?_) (fun z => nomatch z)
  refine sd_retd (e_grid (f := f) hn (e_consd (e_var rfl) e_nil) (by decide) (by decide) (fun a _ => e_consd (e_var rfl) e_nil) fun a b ha hb => ?_) r
  exact (n_intB (e_orVd (e_eqS (x := w) (e_var rfl) e_str) fun _ => e_andVd (e_eqS (x := w) (e_var rfl) e_str) fun _ => n_eq (a := a) (b := b) (e_var rfl) (e_var rfl))).is (by rw [hf])
theorem sd__law_value {m : Nat} (i : IV) (e : E) (ok : WOk i.kn i.tn i.w) (he : eOk (i.kn ++ i.tn) e) (hd : eDep e < m + 1) :
    Sd K 99 (t__law_value K m) [some (pyQ i.kn i.tn), some (pyW i.w), some (pyE e), none, none, none, none, none] none N fun d => d = pyG i.w.n (val i.kn i.tn i.w e) := by
  have hn := ok.n
  refine sd_setd (d := nI i.w.n) (e_t0 (e_var rfl)) (by decide) ?_
  cases e with
  | name s =>
    refine sd_setd (d := .str "name") (e_t0 (e_var (d := pyE (.name s)) rfl)) (by decide) (sd_yes rfl ?_)
    exact sd_ret (e_calld ⟨i.kn, i.tn, i.w, s⟩ (e_consd (e_var rfl) (e_consd (e_var rfl) (e_consd (e_t1 (e_var (d := pyE (.name s)) rfl)) e_nil))) ⟨ok, he⟩ fun d r => r)
  | same =>
    refine sd_setd (d := .str "same") (e_t0 (e_var (d := pyE .same) rfl)) (by decide) (sd_no (x := "same") rfl (by decide +kernel) ?_)
    exact value_const (i := i) (e := .same) (w := "same") (f := sameF) hn rfl (fun a b => by rw [b_sa, b_ss]; show decide (a = b) = (a == b); exact (Bool.beq_eq_decide_eq a b).symm) rfl
  | all =>
    refine sd_setd (d := .str "all") (e_t0 (e_var (d := pyE .all) rfl)) (by decide) (sd_no (x := "all") rfl (by decide +kernel) ?_)
    exact value_const (i := i) (e := .all) (w := "all") (f := allF) hn rfl (fun a b => by rw [b_aa]; rfl) rfl
  | none =>
    refine sd_setd (d := .str "none") (e_t0 (e_var (d := pyE .none) rfl)) (by decide) (sd_no (x := "none") rfl (by decide +kernel) ?_)
    exact value_const (i := i) (e := .none) (w := "none") (f := noF) hn rfl (fun a b => by rw [b_na, b_ns]; rfl) rfl
  | turned e =>
    have hd : eDep e + 1 < m + 1 := hd
    have d1 : eDep e < m := by omega
    refine sd_setd (d := .str "turned") (e_t0 (e_var (d := pyE (.turned e)) rfl)) (by decide) (sd_no (x := "turned") rfl (by decide +kernel) ?_)
    refine sd_when (b := false) ((t_testd (n_eq (e_lenE (e := .turned e) (e_var rfl) rfl) (n_c (n := 1)))).is rfl) (fun z => nomatch z) fun _ => ?_
    refine sd_set (e_callr (i, e) (e_consd (e_var rfl) (e_consd (e_var rfl) (e_consd (e_t1 (e_var (d := pyE (.turned e)) rfl)) e_nil))) ⟨ok, he, d1⟩) (by decide) fun d r => ?_
    subst r
    refine sd_yes (x := "turned") rfl (sd_retd (e_grid (f := turnF (val i.kn i.tn i.w e)) hn (e_consd (e_var rfl) e_nil) (by decide) (by decide) (fun a _ => e_consd (e_var rfl) e_nil) fun a b ha hb => ?_) rfl)
    exact e_cell (f := val i.kn i.tn i.w e) (a := b) (b := a) (e_var rfl) (e_var rfl) (e_var rfl) hb ha
  | closed e =>
    have hd : eDep e + 1 < m + 1 := hd
    have d1 : eDep e < m := by omega
    refine sd_setd (d := .str "closed") (e_t0 (e_var (d := pyE (.closed e)) rfl)) (by decide) (sd_no (x := "closed") rfl (by decide +kernel) ?_)
    refine sd_when (b := false) ((t_testd (n_eq (e_lenE (e := .closed e) (e_var rfl) rfl) (n_c (n := 1)))).is rfl) (fun z => nomatch z) fun _ => ?_
    refine sd_set (e_callr (i, e) (e_consd (e_var rfl) (e_consd (e_var rfl) (e_consd (e_t1 (e_var (d := pyE (.closed e)) rfl)) e_nil))) ⟨ok, he, d1⟩) (by decide) fun d r => ?_
    subst r
    refine sd_no (x := "closed") rfl (by decide +kernel) (sd_yes rfl ?_)
    exact sd_ret (e_calld (i.w.n, val i.kn i.tn i.w e) (e_consd (e_var rfl) e_nil) hn fun d r => r)
  | plus e f =>
    have hd : max (eDep e) (eDep f) + 1 < m + 1 := hd
    have d1 : eDep e < m := by omega
    have d2 : eDep f < m := by omega
    refine sd_setd (d := .str "plus") (e_t0 (e_var (d := pyE (.plus e f)) rfl)) (by decide) (sd_no (x := "plus") rfl (by decide +kernel) ?_)
    refine sd_when (b := false) ((t_testd (n_eq (e_lenE (e := .plus e f) (e_var rfl) rfl) (n_c (n := 1)))).is rfl) (fun z => nomatch z) fun _ => ?_
    refine sd_set (e_callr (i, e) (e_consd (e_var rfl) (e_consd (e_var rfl) (e_consd (e_t1 (e_var (d := pyE (.plus e f)) rfl)) e_nil))) ⟨ok, he.1, d1⟩) (by decide) fun d r => ?_
    subst r
    refine sd_no (x := "plus") rfl (by decide +kernel) (sd_no (x := "plus") rfl (by decide +kernel) ?_)
    exact sd_ret (e_calld ((i.w.n, val i.kn i.tn i.w e, val i.kn i.tn i.w f), Tw.plus) (e_consd (e_var rfl) (e_consd (e_var rfl) (e_consd (e_calld (i, f) (e_consd (e_var rfl) (e_consd (e_var rfl) (e_consd (e_t2 (e_var (d := pyE (.plus e f)) rfl)) e_nil))) ⟨ok, he.2, d2⟩ fun d r => r) e_nil))) hn fun d r => r)
  | less e f =>
    have hd : max (eDep e) (eDep f) + 1 < m + 1 := hd
    have d1 : eDep e < m := by omega
    have d2 : eDep f < m := by omega
    refine sd_setd (d := .str "less") (e_t0 (e_var (d := pyE (.less e f)) rfl)) (by decide) (sd_no (x := "less") rfl (by decide +kernel) ?_)
    refine sd_when (b := false) ((t_testd (n_eq (e_lenE (e := .less e f) (e_var rfl) rfl) (n_c (n := 1)))).is rfl) (fun z => nomatch z) fun _ => ?_
    refine sd_set (e_callr (i, e) (e_consd (e_var rfl) (e_consd (e_var rfl) (e_consd (e_t1 (e_var (d := pyE (.less e f)) rfl)) e_nil))) ⟨ok, he.1, d1⟩) (by decide) fun d r => ?_
    subst r
    refine sd_no (x := "less") rfl (by decide +kernel) (sd_no (x := "less") rfl (by decide +kernel) ?_)
    exact sd_ret (e_calld ((i.w.n, val i.kn i.tn i.w e, val i.kn i.tn i.w f), Tw.less) (e_consd (e_var rfl) (e_consd (e_var rfl) (e_consd (e_calld (i, f) (e_consd (e_var rfl) (e_consd (e_var rfl) (e_consd (e_t2 (e_var (d := pyE (.less e f)) rfl)) e_nil))) ⟨ok, he.2, d2⟩ fun d r => r) e_nil))) hn fun d r => r)
  | both e f =>
    have hd : max (eDep e) (eDep f) + 1 < m + 1 := hd
    have d1 : eDep e < m := by omega
    have d2 : eDep f < m := by omega
    refine sd_setd (d := .str "both") (e_t0 (e_var (d := pyE (.both e f)) rfl)) (by decide) (sd_no (x := "both") rfl (by decide +kernel) ?_)
    refine sd_when (b := false) ((t_testd (n_eq (e_lenE (e := .both e f) (e_var rfl) rfl) (n_c (n := 1)))).is rfl) (fun z => nomatch z) fun _ => ?_
    refine sd_set (e_callr (i, e) (e_consd (e_var rfl) (e_consd (e_var rfl) (e_consd (e_t1 (e_var (d := pyE (.both e f)) rfl)) e_nil))) ⟨ok, he.1, d1⟩) (by decide) fun d r => ?_
    subst r
    refine sd_no (x := "both") rfl (by decide +kernel) (sd_no (x := "both") rfl (by decide +kernel) ?_)
    exact sd_ret (e_calld ((i.w.n, val i.kn i.tn i.w e, val i.kn i.tn i.w f), Tw.both) (e_consd (e_var rfl) (e_consd (e_var rfl) (e_consd (e_calld (i, f) (e_consd (e_var rfl) (e_consd (e_var rfl) (e_consd (e_t2 (e_var (d := pyE (.both e f)) rfl)) e_nil))) ⟨ok, he.2, d2⟩ fun d r => r) e_nil))) hn fun d r => r)
  | joined e f =>
    have hd : max (eDep e) (eDep f) + 1 < m + 1 := hd
    have d1 : eDep e < m := by omega
    have d2 : eDep f < m := by omega
    refine sd_setd (d := .str "joined") (e_t0 (e_var (d := pyE (.joined e f)) rfl)) (by decide) (sd_no (x := "joined") rfl (by decide +kernel) ?_)
    refine sd_when (b := false) ((t_testd (n_eq (e_lenE (e := .joined e f) (e_var rfl) rfl) (n_c (n := 1)))).is rfl) (fun z => nomatch z) fun _ => ?_
    refine sd_set (e_callr (i, e) (e_consd (e_var rfl) (e_consd (e_var rfl) (e_consd (e_t1 (e_var (d := pyE (.joined e f)) rfl)) e_nil))) ⟨ok, he.1, d1⟩) (by decide) fun d r => ?_
    subst r
    refine sd_no (x := "joined") rfl (by decide +kernel) (sd_no (x := "joined") rfl (by decide +kernel) ?_)
    exact sd_ret (e_calld ((i.w.n, val i.kn i.tn i.w e, val i.kn i.tn i.w f), Tw.joined) (e_consd (e_var rfl) (e_consd (e_var rfl) (e_consd (e_calld (i, f) (e_consd (e_var rfl) (e_consd (e_var rfl) (e_consd (e_t2 (e_var (d := pyE (.joined e f)) rfl)) e_nil))) ⟨ok, he.2, d2⟩ fun d r => r) e_nil))) hn fun d r => r)
/-! ### counts -/
theorem sum_row (p : Nat → Bool) : ∀ n : Nat, ((List.range n).map fun b => (p b).toNat).sum = cnt n p
  | 0 => rfl
  | n + 1 => by
    rw [List.range_succ, List.map_append, List.sum_append, sum_row p n]
    show cnt n p + ((p n).toNat + 0) = cnt n p + (p n).toNat
    omega
theorem sd__law_counts (n : Nat) (f : F) (hn : n ≤ 4) : Sd K 99 (t__law_counts K) [some (pyG n f), none] none N fun d => d = .list ((nums n f).map nI) := by
  refine sd_retd (e_lcLm (l := List.range n) (f := fun a => rowG n f a) (g := fun a => nI (cnt n (f a))) (e_var rfl) (by rw [List.length_range]; omega) (by decide) fun a _ => ?_) ?_
  · exact (n_sum (l := (List.range n).map fun b => (f a b).toNat) ((e_var (d := rowG n f a) rfl).is (by rw [List.map_map]; rfl))).is (by rw [sum_row])
  · unfold nums
    rw [List.map_map]; rfl
/-! ### number -/
theorem sum_bits (g : Nat → Bool) : ∀ m : Nat, ((List.range m).map fun k => (g k).toNat <<< k).sum = bitsum m g
  | 0 => rfl
  | m + 1 => by
    rw [List.range_succ, List.map_append, List.sum_append, sum_bits g m]
    show bitsum m g + ((g m).toNat <<< m + 0) = bitsum m g + (g m).toNat * 2 ^ m
    rw [Nat.shiftLeft_eq]; omega
theorem sd__law_number (n : Nat) (f : F) (hn : n ≤ 4) : Sd K 99 (t__law_number K) [some (pyG n f), none, none] none N fun d => d = pyT n f := by
  have h16 := sq16 hn
  refine sd_setd (d := nI n) (e_lenG (f := f) (e_var rfl)) (by decide) ?_
  refine sd_retd (n_sum (l := (List.range (n * n)).map fun k => (f (k / n) (k % n)).toNat <<< k) ((e_lcRn (n := n * n) (g := fun k => nI ((f (k / n) (k % n)).toNat <<< k)) (e_consd (n_mul (a := n) (b := n) (e_var rfl) (e_var rfl) (by omega)) e_nil) (by omega) (by decide) fun k hk => ?_).is (by rw [List.map_map]; rfl))) ?_
  · have q := ix_of hk
    have h0 : 0 < n := by omega
    refine n_shl (a := (f (k / n) (k % n)).toNat) (b := k) (e_cell (f := f) (e_var rfl) (n_fdv (a := k) (b := n) (e_var rfl) (e_var rfl) h0 (by omega)) (n_mod (a := k) (b := n) (e_var rfl) (e_var rfl) h0) q.1 q.2.1) (e_var rfl) ?_ (by omega)
    cases f (k / n) (k % n) <;> decide
  · rw [sum_bits (fun k => f (k / n) (k % n))]; rfl
end
end Wf


set_option maxHeartbeats 1000000
/-! Kept or broken; the worlds between; the law's question. -/
namespace Wf
open PySem PySem.Spec PyProof.Rows L2
section
variable {K : PySem.W.Frag} {N : NP} {es : Env} {te ta tb tc : TE} {tA : TA}
/-! ### two grids compared -/
theorem eqvAll_map {α : Type} (f g : α → PyData) : ∀ l : List α, PyData.eqvAll (l.map f) (l.map g) = l.all fun a => PyData.eqv (f a) (g a)
  | [] => rfl
  | a :: r => by
    rw [List.map_cons, List.map_cons, List.all_cons, PyData.eqvAll, eqvAll_map f g r]
theorem eqv_nat (a b : Nat) : PyData.eqv (nI a) (nI b) = decide (a = b) := by
  show (((a : Int) == (b : Int))) = decide (a = b)
  rw [Bool.beq_eq_decide_eq]
  exact decide_eq_decide.mpr (by omega)
theorem eqv_grid (n : Nat) (f g : F) : PyData.eqv (pyG n f) (pyG n g) = true ↔ ∀ a b, a < n → b < n → f a b = g a b := by
  show PyData.eqvAll _ _ = true ↔ _
  rw [eqvAll_map, List.all_eq_true]
  constructor
  · intro h a b ha hb
    have q := h a (List.mem_range.mpr ha)
    have q : PyData.eqvAll ((List.range n).map fun b => nI (f a b).toNat) ((List.range n).map fun b => nI (g a b).toNat) = true := q
    rw [eqvAll_map, List.all_eq_true] at q
    have q := q b (List.mem_range.mpr hb)
    rw [eqv_nat, decide_eq_true_iff] at q
    cases h1 : f a b <;> cases h2 : g a b <;> rw [h1, h2] at q <;> first | rfl | cases q
  · intro h a ha
    show PyData.eqvAll _ _ = true
    rw [eqvAll_map, List.all_eq_true]
    intro b hb
    rw [eqv_nat, h a b (List.mem_range.mp ha) (List.mem_range.mp hb), decide_eq_true rfl]
theorem lay_all {α : Type} {f : α → PyData} (h : ∀ a, (f a).canLay0 = true) : ∀ l : List α, PyData.canLayAll0 (l.map f) = true
  | [] => rfl
  | a :: r => by
    rw [List.map_cons, PyData.canLayAll0, h a, lay_all h r]; rfl
theorem depth_all {α : Type} {f : α → PyData} {k : Nat} (h : ∀ a, (f a).depth ≤ k) : ∀ l : List α, PyData.depthAll (l.map f) ≤ k
  | [] => by rw [List.map_nil, PyData.depthAll]; exact Nat.zero_le _
  | a :: r => by
    rw [List.map_cons, PyData.depthAll]
    exact Nat.max_le.mpr ⟨h a, depth_all h r⟩
theorem depth_int (i : Int) : (PyData.int i).depth ≤ 1 := by
  first
    | (rw [PyData.depth]; omega)
    | simp [PyData.depth]
theorem shaped_grid (n : Nat) (f : F) : SeqAt.shaped (pyG n f) = true := by
  unfold SeqAt.shaped
  rw [Bool.and_eq_true]
  constructor
  · rw [PyData.canLay0]
    refine lay_all (fun a => ?_) _
    rw [PyData.canLay0]
    exact lay_all (fun b => by rw [PyData.canLay0]) _
  · rw [decide_eq_true_iff, PyData.depth]
    have h : PyData.depthAll ((List.range n).map fun a => rowG n f a) ≤ 2 := by
      refine depth_all (fun a => ?_) _
      rw [PyData.depth]
      have := depth_all (f := fun b => nI (f a b).toNat) (k := 1) (fun b => depth_int _) (List.range n)
      omega
    exact Nat.le_trans (Nat.succ_le_succ h) (by decide)
theorem noDict_all {α : Type} {f : α → PyData} (h : ∀ a, noDict (f a) = true) : ∀ l : List α, noDictAll (l.map f) = true
  | [] => rfl
  | a :: r => by
    rw [List.map_cons, noDictAll, h a, noDict_all h r]; rfl
theorem noDict_grid (n : Nat) (f : F) : noDict (pyG n f) = true := by
  rw [noDict]
  refine noDict_all (fun a => ?_) _
  rw [noDict]
  exact noDict_all (fun b => by simp only [noDict]) _
/-! ### fact_kept -/
theorem sd_inNo {i j : Nat} {o : Option (List PyData)} {R : PyData → Prop} {t tz : TS} {x a b : Str} (h : es[i]? = some (some (.str x))) (hne : decide (x ∈ [a, b]) = false) (k : Sd K j tz es o N R) :
    Sd K j (tSeq (tIfS (tTest (tOp (rIn K false) (tVar i) (tTup (tCons (tC (.str a)) (tCons (tC (.str b)) tNil))))) t tNext) tz) es o N R :=
  sd_when (b := false) ((t_testd (e_inS (ys := [a, b]) (e_var h) ((e_tupd (e_consd e_str (e_consd e_str e_nil)) (by simp)).weak fun d e => .inr (.inl e)))).is hne) (fun z => nomatch z) fun _ => k
theorem sd_inYes {i j : Nat} {o : Option (List PyData)} {R : PyData → Prop} {t tz : TS} {x a b : Str} (h : es[i]? = some (some (.str x))) (he : decide (x ∈ [a, b]) = true) (k : Sd K j t es o (fun es1 o1 => Sd K j tz es1 o1 N R) R) :
    Sd K j (tSeq (tIfS (tTest (tOp (rIn K false) (tVar i) (tTup (tCons (tC (.str a)) (tCons (tC (.str b)) tNil))))) t tNext) tz) es o N R :=
  sd_when (b := true) ((t_testd (e_inS (ys := [a, b]) (e_var h) ((e_tupd (e_consd e_str (e_consd e_str e_nil)) (by simp)).weak fun d e => .inr (.inl e)))).is he) (fun _ => k) (fun z => nomatch z)
theorem e_last {x : PyData} {r : List PyData} (h : Ed K ta es (.tuple (r ++ [x]))) : Ed K (tOp (rIxT K) ta (tUn qNeg (tC (.int 1)))) es x := e_ixT h (e_neg e_int) (atI_last r x)
abbrev ppF (i : IV) (f : Sg) : PyData → Prop := fun d => d = .bool (kept i.kn i.tn i.w f)
/-- a fact of one expression, up to the counts -/
theorem kept_counts {i : IV} {s : Sg} {w : Str} {e : E} {tz : TS} {t1 : TS} {R : PyData → Prop} (ok : WOk i.kn i.tn i.w) (he : eOk (i.kn ++ i.tn) e ∧ eDep e < 9) {r r0 : List PyData} (hs : pyS s = .tuple (.str w :: r)) (hl : .str w :: r = r0 ++ [pyE e]) (h1 : decide (w ∈ [("in" : Str), "equal"]) = false)
    (k : Sd K 99 tz [some (pyQ i.kn i.tn), some (pyW i.w), some (pyS s), some (.str w), some (.list ((nums i.w.n (val i.kn i.tn i.w e)).map nI)), none, none, none] none N R) :
    Sd K 99 (tSeq (tAsg (tOp (rIxT K) (tVar 2) (tC (.int 0))) (gName 3))
    (tSeq (tIfS (tTest (tOp (rIn K false) (tVar 3) (tTup (tCons (tC (.str "in")) (tCons (tC (.str "equal")) tNil))))) t1 tNext)
    (tSeq (tAsg (tCall (sp__law_counts K) [] E0 (tCons (tCall (sp__law_value K 9) [] E0 (tCons (tVar 0) (tCons (tVar 1) (tCons (tOp (rIxT K) (tVar 2) (tUn qNeg (tC (.int 1)))) tNil)))) tNil)) (gName 4)) tz)))
    [some (pyQ i.kn i.tn), some (pyW i.w), some (pyS s), none, none, none, none, none] none N R := by
  refine sd_setd (d := .str w) (e_t0 ((e_var (d := pyS s) rfl).is hs)) (by decide) ?_
  refine sd_inNo (x := w) rfl h1 ?_
  refine sd_set (e_callr (i.w.n, val i.kn i.tn i.w e) (e_consd (e_calld (i, e) (e_consd (e_var rfl) (e_consd (e_var rfl) (e_consd (e_last (x := pyE e) (r := r0) ((e_var (d := pyS s) rfl).is (by rw [hs, hl]))) e_nil))) ⟨ok, he.1, he.2⟩ fun d r => r) e_nil) ok.n) (by decide) fun d r => ?_
  subst r
  exact k
theorem eqv_both (n : Nat) (f g : F) : PyData.eqv (pyG n (andF f g)) (pyG n f) = sub n f g := by
  rw [Bool.eq_iff_iff, eqv_grid, sub_iff]
  constructor
  · intro h a b ha hb hf
    have q := h a b ha hb
    unfold andF at q
    rw [hf, Bool.true_and] at q
    exact q
  · intro h a b ha hb
    unfold andF
    cases e : f a b with
    | false => rfl
    | true => rw [h a b ha hb e]; rfl
theorem eqv_equal (n : Nat) (f g : F) : PyData.eqv (pyG n f) (pyG n g) = (sub n f g && sub n g f) := by
  rw [Bool.eq_iff_iff, eqv_grid, Bool.and_eq_true, sub_iff, sub_iff]
  constructor
  · intro h
    exact ⟨fun a b ha hb q => by rw [← h a b ha hb]; exact q, fun a b ha hb q => by rw [h a b ha hb]; exact q⟩
  · rintro ⟨h1, h2⟩ a b ha hb
    rw [Bool.eq_iff_iff]
    exact ⟨h1 a b ha hb, h2 a b ha hb⟩
theorem sd__law_fact_kept (i : IV) (s : Sg) (ok : WOk i.kn i.tn i.w) (hs : sOk (i.kn ++ i.tn) s) (hf : isFact s = true) :
    Sd K 99 (t__law_fact_kept K) [some (pyQ i.kn i.tn), some (pyW i.w), some (pyS s), none, none, none, none, none] none N fun d => d = .bool (kept i.kn i.tn i.w s) := by
  cases s with
  | not s => cases hf
  | and s t => cases hf
  | or s t => cases hf
  | inn e f =>
    have he := hs e (by simp [parts])
    have hg := hs f (by simp [parts])
    refine sd_setd (d := .str "in") (e_t0 (e_var (d := pyS (.inn e f)) rfl)) (by decide) (sd_inYes (x := "in") rfl (by decide +kernel) ?_)
    refine sd_set (e_callr (i, e) (e_consd (e_var rfl) (e_consd (e_var rfl) (e_consd (e_t1 (e_var (d := pyS (.inn e f)) rfl)) e_nil))) ⟨ok, he.1, he.2⟩) (by decide) fun d r => ?_
    subst r
    refine sd_set (e_callr (i, f) (e_consd (e_var rfl) (e_consd (e_var rfl) (e_consd (e_t2 (e_var (d := pyS (.inn e f)) rfl)) e_nil))) ⟨ok, hg.1, hg.2⟩) (by decide) fun d r => ?_
    subst r
    refine sd_no (x := "in") rfl (by decide +kernel) (sd_retd (e_eqD (e_calld ((i.w.n, val i.kn i.tn i.w e, val i.kn i.tn i.w f), Tw.both) (e_consd e_str (e_consd (e_var rfl) (e_consd (e_var rfl) e_nil))) ok.n fun d r => r) (e_var rfl) (shaped_grid _ _) (shaped_grid _ _) (noDict_grid _ _) (noDict_grid _ _)) ?_)
    rw [show twF i.w.n (val i.kn i.tn i.w e) (val i.kn i.tn i.w f) Tw.both = andF (val i.kn i.tn i.w e) (val i.kn i.tn i.w f) from rfl, eqv_both]; rfl
  | equal e f =>
    have he := hs e (by simp [parts])
    have hg := hs f (by simp [parts])
    refine sd_setd (d := .str "equal") (e_t0 (e_var (d := pyS (.equal e f)) rfl)) (by decide) (sd_inYes (x := "equal") rfl (by decide +kernel) ?_)
    refine sd_set (e_callr (i, e) (e_consd (e_var rfl) (e_consd (e_var rfl) (e_consd (e_t1 (e_var (d := pyS (.equal e f)) rfl)) e_nil))) ⟨ok, he.1, he.2⟩) (by decide) fun d r => ?_
    subst r
    refine sd_set (e_callr (i, f) (e_consd (e_var rfl) (e_consd (e_var rfl) (e_consd (e_t2 (e_var (d := pyS (.equal e f)) rfl)) e_nil))) ⟨ok, hg.1, hg.2⟩) (by decide) fun d r => ?_
    subst r
    refine sd_yes (x := "equal") rfl (sd_retd (e_eqD (e_var rfl) (e_var rfl) (shaped_grid i.w.n (val i.kn i.tn i.w e)) (shaped_grid i.w.n (val i.kn i.tn i.w f)) (noDict_grid _ _) (noDict_grid _ _)) ?_)
    rw [eqv_equal]; rfl
  | some e =>
    refine kept_counts (w := "some") (e := e) (r0 := [.str "some"]) ok (hs e (by simp [parts])) rfl rfl (by decide +kernel) (sd_inYes (x := "some") rfl (by decide +kernel) ?_)
    refine sd_retd (e_eqB (n_gt (n_sum (l := nums i.w.n (val i.kn i.tn i.w e)) (e_var rfl)) (n_c (n := 0))) (e_eqS (x := "some") (e_var rfl) e_str)) ?_
    rw [decide_eq_true (rfl : ("some" : Str) = "some"), beq_true]; rfl
  | no e =>
    refine kept_counts (w := "no") (e := e) (r0 := [.str "no"]) ok (hs e (by simp [parts])) rfl rfl (by decide +kernel) (sd_inYes (x := "no") rfl (by decide +kernel) ?_)
    refine sd_retd (e_eqB (n_gt (n_sum (l := nums i.w.n (val i.kn i.tn i.w e)) (e_var rfl)) (n_c (n := 0))) (e_eqS (x := "no") (e_var rfl) e_str)) ?_
    rw [show decide (("no" : Str) = "some") = false by decide +kernel, beq_false]; rfl
  | least k e =>
    refine kept_counts (w := "least") (e := e) (r0 := [.str "least", nI k]) ok (hs e (by simp [parts])) rfl rfl (by decide +kernel) (sd_inNo (x := "least") rfl (by decide +kernel) (sd_inYes (x := "least") rfl (by decide +kernel) ?_))
    refine sd_asg (e_lstd (e_consd (n_sum (l := nums i.w.n (val i.kn i.tn i.w e)) (e_var rfl)) e_nil) (by simp)) (by decide) fun d ed => ?_
    subst ed
    refine sd_inYes (x := "least") rfl (by decide +kernel) ?_
    refine sd_retd (e_allm (l := [(nums i.w.n (val i.kn i.tn i.w e)).sum]) (p := fun x => decide (k ≤ x)) (e_lcLm (l := [(nums i.w.n (val i.kn i.tn i.w e)).sum]) (f := nI) (e_var rfl) (by simp) (by decide) fun a _ => n_ge (e_var (d := nI a) rfl) (e_t1 (e_var (d := pyS (.least k e)) rfl)))) ?_
    rw [all_one]; rfl
  | most k e =>
    refine kept_counts (w := "most") (e := e) (r0 := [.str "most", nI k]) ok (hs e (by simp [parts])) rfl rfl (by decide +kernel) (sd_inNo (x := "most") rfl (by decide +kernel) (sd_inYes (x := "most") rfl (by decide +kernel) ?_))
    refine sd_asg (e_lstd (e_consd (n_sum (l := nums i.w.n (val i.kn i.tn i.w e)) (e_var rfl)) e_nil) (by simp)) (by decide) fun d ed => ?_
    subst ed
    refine sd_inNo (x := "most") rfl (by decide +kernel) ?_
    refine sd_retd (e_allm (l := [(nums i.w.n (val i.kn i.tn i.w e)).sum]) (p := fun x => decide (x ≤ k)) (e_lcLm (l := [(nums i.w.n (val i.kn i.tn i.w e)).sum]) (f := nI) (e_var rfl) (by simp) (by decide) fun a _ => n_le (e_var (d := nI a) rfl) (e_t1 (e_var (d := pyS (.most k e)) rfl)))) ?_
    rw [all_one]; rfl
  | eachleast k e =>
    refine kept_counts (w := "eachleast") (e := e) (r0 := [.str "eachleast", nI k]) ok (hs e (by simp [parts])) rfl rfl (by decide +kernel) (sd_inNo (x := "eachleast") rfl (by decide +kernel) (sd_inNo (x := "eachleast") rfl (by decide +kernel) ?_))
    refine sd_inYes (x := "eachleast") rfl (by decide +kernel) ?_
    exact sd_retd (e_allm (l := nums i.w.n (val i.kn i.tn i.w e)) (p := fun x => decide (k ≤ x)) (e_lcLm (l := nums i.w.n (val i.kn i.tn i.w e)) (f := nI) (e_var rfl) (by rw [nums_len]; have := ok.n; omega) (by decide) fun a _ => n_ge (e_var (d := nI a) rfl) (e_t1 (e_var (d := pyS (.eachleast k e)) rfl)))) rfl
  | eachmost k e =>
    refine kept_counts (w := "eachmost") (e := e) (r0 := [.str "eachmost", nI k]) ok (hs e (by simp [parts])) rfl rfl (by decide +kernel) (sd_inNo (x := "eachmost") rfl (by decide +kernel) (sd_inNo (x := "eachmost") rfl (by decide +kernel) ?_))
    refine sd_inNo (x := "eachmost") rfl (by decide +kernel) ?_
    exact sd_retd (e_allm (l := nums i.w.n (val i.kn i.tn i.w e)) (p := fun x => decide (x ≤ k)) (e_lcLm (l := nums i.w.n (val i.kn i.tn i.w e)) (f := nI) (e_var rfl) (by rw [nums_len]; have := ok.n; omega) (by decide) fun a _ => n_le (e_var (d := nI a) rfl) (e_t1 (e_var (d := pyS (.eachmost k e)) rfl)))) rfl
/-! ### kept -/
theorem sd_wNo {i j : Nat} {o : Option (List PyData)} {R : PyData → Prop} {t tz : TS} {w y : Str} {r : List PyData} {d : PyData} (h : es[i]? = some (some d)) (hd : d = .tuple (.str w :: r)) (hne : decide (w = y) = false) (k : Sd K j tz es o N R) :
    Sd K j (tSeq (tIfS (tTest (tOp rEq (tOp (rIxT K) (tVar i) (tC (.int 0))) (tC (.str y)))) t tNext) tz) es o N R :=
  sd_when (b := false) ((t_testd (e_eqS (e_t0 ((e_var h).is hd)) e_str)).is hne) (fun z => nomatch z) fun _ => k
theorem sd_wYes {i j : Nat} {o : Option (List PyData)} {R : PyData → Prop} {t tz : TS} {w : Str} {r : List PyData} {d : PyData} (h : es[i]? = some (some d)) (hd : d = .tuple (.str w :: r)) (k : Sd K j t es o (fun es1 o1 => Sd K j tz es1 o1 N R) R) :
    Sd K j (tSeq (tIfS (tTest (tOp rEq (tOp (rIxT K) (tVar i) (tC (.int 0))) (tC (.str w)))) t tNext) tz) es o N R :=
  sd_when (b := true) ((t_testd (e_eqS (e_t0 ((e_var h).is hd)) e_str)).is (decide_eq_true rfl)) (fun _ => k) (fun z => nomatch z)
theorem kept_fact {m : Nat} {i : IV} {s : Sg} {w : Str} {r : List PyData} (ok : WOk i.kn i.tn i.w) (hs : sOk (i.kn ++ i.tn) s) (hf : isFact s = true) (hp : pyS s = .tuple (.str w :: r)) (h1 : decide (w = "not") = false) (h2 : decide (w = "and") = false) (h3 : decide (w = "or") = false) :
    Sd K 99 (t__law_kept K m) [some (pyQ i.kn i.tn), some (pyW i.w), some (pyS s)] none N fun d => d = .bool (kept i.kn i.tn i.w s) :=
  sd_wNo (d := pyS s) rfl hp h1 (sd_wNo (d := pyS s) rfl hp h2 (sd_wNo (d := pyS s) rfl hp h3 (sd_ret (e_calld (i, s) (e_consd (e_var rfl) (e_consd (e_var rfl) (e_consd (e_var rfl) e_nil))) ⟨ok, hs, hf⟩ fun d r => r))))
theorem sd__law_kept {m : Nat} (i : IV) (s : Sg) (ok : WOk i.kn i.tn i.w) (hs : sOk (i.kn ++ i.tn) s) (hd : sDep s < m + 1) :
    Sd K 99 (t__law_kept K m) [some (pyQ i.kn i.tn), some (pyW i.w), some (pyS s)] none N fun d => d = .bool (kept i.kn i.tn i.w s) := by
  cases s with
  | not s =>
    have hd : sDep s + 1 < m + 1 := hd
    have d1 : sDep s < m := by omega
    exact sd_wYes (d := pyS (.not s)) rfl rfl (sd_retd (e_notV (e_calld (i, s) (e_consd (e_var rfl) (e_consd (e_var rfl) (e_consd (e_t1 (e_var (d := pyS (.not s)) rfl)) e_nil))) ⟨ok, hs, d1⟩ fun d r => r)) rfl)
  | and s t =>
    have hd : max (sDep s) (sDep t) + 1 < m + 1 := hd
    have d1 : sDep s < m := by omega
    have d2 : sDep t < m := by omega
    refine sd_wNo (d := pyS (.and s t)) (w := "and") rfl rfl (by decide +kernel) (sd_wYes (d := pyS (.and s t)) rfl rfl (sd_retd (e_andVd (e_calld (i, s) (e_consd (e_var rfl) (e_consd (e_var rfl) (e_consd (e_t1 (e_var (d := pyS (.and s t)) rfl)) e_nil))) ⟨ok, hs.1, d1⟩ fun d r => r) fun _ => e_calld (i, t) (e_consd (e_var rfl) (e_consd (e_var rfl) (e_consd (e_t2 (e_var (d := pyS (.and s t)) rfl)) e_nil))) ⟨ok, hs.2, d2⟩ fun d r => r) rfl))
  | or s t =>
    have hd : max (sDep s) (sDep t) + 1 < m + 1 := hd
    have d1 : sDep s < m := by omega
    have d2 : sDep t < m := by omega
    refine sd_wNo (d := pyS (.or s t)) (w := "or") rfl rfl (by decide +kernel) (sd_wNo (d := pyS (.or s t)) (w := "or") rfl rfl (by decide +kernel) (sd_wYes (d := pyS (.or s t)) rfl rfl (sd_retd (e_orVd (e_calld (i, s) (e_consd (e_var rfl) (e_consd (e_var rfl) (e_consd (e_t1 (e_var (d := pyS (.or s t)) rfl)) e_nil))) ⟨ok, hs.1, d1⟩ fun d r => r) fun _ => e_calld (i, t) (e_consd (e_var rfl) (e_consd (e_var rfl) (e_consd (e_t2 (e_var (d := pyS (.or s t)) rfl)) e_nil))) ⟨ok, hs.2, d2⟩ fun d r => r) rfl)))
  | inn e f => exact kept_fact ok hs rfl rfl (by decide +kernel) (by decide +kernel) (by decide +kernel)
  | equal e f => exact kept_fact ok hs rfl rfl (by decide +kernel) (by decide +kernel) (by decide +kernel)
  | some e => exact kept_fact ok hs rfl rfl (by decide +kernel) (by decide +kernel) (by decide +kernel)
  | no e => exact kept_fact ok hs rfl rfl (by decide +kernel) (by decide +kernel) (by decide +kernel)
  | least k e => exact kept_fact ok hs rfl rfl (by decide +kernel) (by decide +kernel) (by decide +kernel)
  | most k e => exact kept_fact ok hs rfl rfl (by decide +kernel) (by decide +kernel) (by decide +kernel)
  | eachleast k e => exact kept_fact ok hs rfl rfl (by decide +kernel) (by decide +kernel) (by decide +kernel)
  | eachmost k e => exact kept_fact ok hs rfl rfl (by decide +kernel) (by decide +kernel) (by decide +kernel)
end
end Wf


set_option maxHeartbeats 1000000
/-! The worlds between; the law's question. -/
namespace Wf
open PySem PySem.Spec PyProof.Rows L2
section
variable {K : PySem.W.Frag} {N : NP} {es : Env} {te ta tb tc : TE} {tA : TA}
/-! ### bit_put -/
theorem put_n (w : Wd) (s : Spot) (b : Bool) : (put w s b).n = w.n := by unfold put; split <;> rfl
theorem putN_lt {x j n : Nat} (b : Bool) (hx : x < 2 ^ n) (hj : j < n) : putN x j b < 2 ^ n := by
  refine Nat.lt_pow_two_of_testBit _ fun i hi => ?_
  rw [testBit_put, if_neg (by omega)]
  exact Nat.testBit_lt_two_pow (Nat.lt_of_lt_of_le hx (Nat.pow_le_pow_right (by omega) hi))
theorem mem_set {l : List Nat} {k x y : Nat} (h : y ∈ l.set k x) : y ∈ l ∨ y = x := List.mem_or_eq_of_mem_set h
theorem put_ok {kn tn : List Str} {w : Wd} {s : Spot} (ok : WOk kn tn w) (hs : SpOk kn tn w.n s) (b : Bool) : WOk kn tn (put w s b) := by
  have h1 := hs.k
  have h2 := hs.j
  unfold put
  by_cases hk : s.kind = true
  · rw [if_pos hk] at h1 h2 ⊢
    refine ⟨ok.n, by simp only [List.length_set]; exact ok.ks, ok.ts, fun k hk' => ?_, ok.tb⟩
    rcases mem_set hk' with h | h
    · exact ok.kb k h
    · rw [h]
      exact putN_lt b (ok.kb _ (getD_mem (by rw [ok.ks]; exact h1))) h2
  · rw [if_neg hk] at h1 h2 ⊢
    refine ⟨ok.n, ok.ks, by simp only [List.length_set]; exact ok.ts, ok.kb, fun t ht => ?_⟩
    rcases mem_set ht with h | h
    · exact ok.tb t h
    · rw [h]
      exact putN_lt b (ok.tb _ (getD_mem (by rw [ok.ts]; exact h1))) h2
theorem map_set_nI (l : List Nat) (k x : Nat) : (l.map nI).set k (nI x) = (l.set k x).map nI := by rw [List.map_set]
theorem put_val {ta tb tc te : TE} {x jj : Nat} {b : Bool} {ds : List PyData} {k : Nat} (h1 : Ed K ta es (.list ds)) (h2 : Ed K tb es (nI k)) (hk : ds[k]? = some (nI x)) (h3 : Ed K tc es (nI (2 ^ jj))) (h4 : Ed K te es (.bool b)) :
    Ed K (tOp qSub (tOp qOr (tOp (rIxL K) ta tb) tc) (tOp (rIxL K) (tLst (tCons tc (tCons (tC (.int 0)) tNil))) (tCB rInt1 (tCons te tNil)))) es (nI (putN x jj b)) := by
  refine n_sub (n_or (e_lk h1 h2 hk) h3) (e_lk (d := nI (if b then 0 else 2 ^ jj)) (e_lstd (e_consd h3 (e_consd (n_c (n := 0)) e_nil)) (by simp)) (n_intB h4) (by cases b <;> rfl)) ?_
  cases b with
  | true => exact Nat.zero_le _
  | false => exact Nat.right_le_or
theorem sd__law_bit_put (i : IV) (s : Spot) (b : Bool) (ok : WOk i.kn i.tn i.w) (hs : SpOk i.kn i.tn i.w.n s) : Sd K 6 (t__law_bit_put K) [some (pyW i.w), some (pySp s), some (.bool b), none, none, none, none] none N fun d => d = pyW (put i.w s b) := by
  obtain ⟨kind, k, jj⟩ := s
  refine sd_un3 (d1 := nI (if kind then 1 else 2)) (d2 := nI k) (d3 := nI (2 ^ jj)) (e_var rfl) (by decide) (by decide) (by decide) ?_
  cases kind with
  | true =>
    have hk : k < i.w.ks.length := by rw [ok.ks]; exact hs.k
    refine sd_seq (sd_own (ef_listOf (ds := i.w.ks.map nI) ((e_tk (k := 1) (e_var (d := pyW i.w) rfl) (e_var rfl) rfl).weak fun d e => .inr e)) (by simp) fun ds e => ?_)
    subst e
    refine sd_seq (sd_store (k := k) (put_val (x := i.w.ks.getD k 0) (e_var rfl) (e_var rfl) (getD_map hk) (e_var rfl) (e_var (d := .bool b) rfl)) (fun d e => by rw [e]; rfl) (e_var rfl) (by rw [List.length_map]; exact hk) fun d e => ?_)
    subst e
    refine sd_when (b := true) ((t_testd (n_eq (a := 1) (e_var rfl) (n_c (n := 1)))).is rfl) (fun _ => sd_freeze (sd_retd (e_tupd (e_consd (e_t0 (e_var (d := pyW i.w) rfl)) (e_consd (e_tupOf (e_var rfl)) (e_consd (e_t2 (e_var (d := pyW i.w) rfl)) e_nil))) (by simp)) ?_)) (fun z => nomatch z)
    rw [map_set_nI]; rfl
  | false =>
    have hk : k < i.w.ts.length := by rw [ok.ts]; exact hs.k
    refine sd_seq (sd_own (ef_listOf (ds := i.w.ts.map nI) ((e_tk (k := 2) (e_var (d := pyW i.w) rfl) (e_var rfl) rfl).weak fun d e => .inr e)) (by simp) fun ds e => ?_)
    subst e
    refine sd_seq (sd_store (k := k) (put_val (x := i.w.ts.getD k 0) (e_var rfl) (e_var rfl) (getD_map hk) (e_var rfl) (e_var (d := .bool b) rfl)) (fun d e => by rw [e]; rfl) (e_var rfl) (by rw [List.length_map]; exact hk) fun d e => ?_)
    subst e
    refine sd_when (b := false) ((t_testd (n_eq (a := 2) (e_var rfl) (n_c (n := 1)))).is rfl) (fun z => nomatch z) fun _ => sd_freeze (sd_retd (e_tupd (e_consd (e_t0 (e_var (d := pyW i.w) rfl)) (e_consd (e_t1 (e_var (d := pyW i.w) rfl)) (e_consd (e_tupOf (e_var rfl)) e_nil))) (by simp)) ?_)
    rw [map_set_nI]; rfl
/-! ### between -/
theorem btw_snoc : ∀ (ss : List Spot) (ws : List Wd) (s : Spot), btw ws (ss ++ [s]) = (btw ws ss).map (put · s false) ++ (btw ws ss).map (put · s true)
  | [], _, _ => rfl
  | _ :: r, _, s => btw_snoc r _ s
theorem btw_len : ∀ (ss : List Spot) (ws : List Wd), (btw ws ss).length = ws.length * 2 ^ ss.length
  | [], ws => by simp [btw]
  | s :: r, ws => by
    show (btw _ r).length = _
    rw [btw_len r, List.length_append, List.length_map, List.length_map, List.length_cons, Nat.pow_succ, ← Nat.two_mul, Nat.mul_comm 2, Nat.mul_assoc, Nat.mul_comm 2]
theorem btw_all {Pw : Wd → Prop} : ∀ (ss : List Spot) (ws : List Wd), (∀ w, w ∈ ws → Pw w) → (∀ s, s ∈ ss → ∀ w b, Pw w → Pw (put w s b)) → ∀ w, w ∈ btw ws ss → Pw w
  | [], _, h, _ => h
  | s :: r, ws, h, hs => btw_all r _ (fun w hw => by
      rcases List.mem_append.mp hw with q | q
      · obtain ⟨v, hv, rfl⟩ := List.mem_map.mp q
        exact hs s List.mem_cons_self v false (h v hv)
      · obtain ⟨v, hv, rfl⟩ := List.mem_map.mp q
        exact hs s List.mem_cons_self v true (h v hv)) fun s' hs' => hs s' (List.mem_cons_of_mem _ hs')
theorem btw_ok {kn tn : List Str} {w : Wd} {ss : List Spot} (ok : WOk kn tn w) (hs : ∀ s, s ∈ ss → SpOk kn tn w.n s) : ∀ v, v ∈ btw [w] ss → WOk kn tn v ∧ v.n = w.n :=
  btw_all (Pw := fun v => WOk kn tn v ∧ v.n = w.n) ss [w] (fun v hv => by rw [List.mem_singleton.mp hv]; exact ⟨ok, rfl⟩) fun s hs' v b hv => ⟨put_ok hv.1 (by rw [hv.2]; exact hs s hs') b, (put_n v s b).trans hv.2⟩
theorem sd__law_between (i : IV) (ps : List Spot) (ok : WOk i.kn i.tn i.w) (h1 : i.kn.length ≤ 4) (h2 : i.tn.length ≤ 4) (hl : ps.length ≤ 4) (hs : ∀ s, s ∈ ps → SpOk i.kn i.tn i.w.n s) :
    Sd K 99 (t__law_between K) [some (pyW i.w), some (.list (ps.map pySp)), none, none, none, none] none N fun d => d = .list ((btw [i.w] ps).map pyW) := by
  refine sd_setd (d := .list ([i.w].map pyW)) (e_lstd (e_consd (e_var rfl) e_nil) (by simp)) (by decide) ?_
  refine sd_seq (sd_forL (ds := ps.map pySp) (e_var rfl) (by decide) (fun k es o => ∃ x y, es = [some (pyW i.w), some (.list (ps.map pySp)), some (.list ((btw [i.w] (ps.take k)).map pyW)), x, y, none] ∧ o = none) ⟨none, none, rfl, rfl⟩ ?_ ?_)
  · rintro k d es1 o1 hd ⟨x, y, rfl, rfl⟩
    obtain ⟨s, hsp, rfl⟩ := get_map hd
    have hsk : SpOk i.kn i.tn i.w.n s := hs s (List.mem_of_getElem? hsp)
    have hk : k < ps.length := (List.getElem?_eq_some_iff.mp hsp).1
    have hw := btw_ok (ss := ps.take k) ok fun s h => hs s (List.mem_of_mem_take h)
    have hlen : (btw [i.w] (ps.take k)).length ≤ 8 := by
      rw [btw_len, List.length_take, List.length_singleton, Nat.one_mul]
      have : 2 ^ min k ps.length ≤ 2 ^ 3 := Nat.pow_le_pow_right (by omega) (by omega)
      exact this
    refine sd_setd (d := .list ((btw [i.w] (ps.take k)).map fun v => pyW (put v s false))) (e_lcLm (l := btw [i.w] (ps.take k)) (f := pyW) (e_var rfl) (by omega) (by decide) fun v hv => ?_) (by decide) ?_
    · exact e_calld (⟨i.kn, i.tn, v⟩, s, false) (e_consd (e_var rfl) (e_consd (e_var rfl) (e_consd e_bl e_nil))) ⟨(hw v hv).1, h1, h2, by rw [show (⟨i.kn, i.tn, v⟩ : IV).w.n = i.w.n from (hw v hv).2]; exact hsk⟩ fun d r => r
    refine sd_asg (e_cat (e_var rfl) (e_lcLm (l := btw [i.w] (ps.take k)) (f := pyW) (g := fun v => pyW (put v s true)) (e_var rfl) (by omega) (by decide) fun v hv => ?_) ?_) (by decide) fun d e => ?_
    · exact e_calld (⟨i.kn, i.tn, v⟩, s, true) (e_consd (e_var rfl) (e_consd (e_var rfl) (e_consd e_bl e_nil))) ⟨(hw v hv).1, h1, h2, by rw [show (⟨i.kn, i.tn, v⟩ : IV).w.n = i.w.n from (hw v hv).2]; exact hsk⟩ fun d r => r
    · rw [List.length_map, List.length_map]; omega
    · subst e
      refine ⟨some (pySp s), some (.list ((btw [i.w] (ps.take k)).map fun v => pyW (put v s false))), ?_, rfl⟩
      rw [take_one hsp, btw_snoc, List.map_append, List.map_map, List.map_map]; rfl
  · rintro es1 o1 ⟨x, y, rfl, rfl⟩
    refine sd_retd (e_var rfl) ?_
    rw [List.length_map, List.take_length]
/-! ### the law's question -/
theorem and_sub {n : Nat} {f g : F} (h : leF f g) : enc n f &&& enc n g = enc n f := by
  rw [enc_and]
  refine enc_ext fun a b _ _ => ?_
  unfold andF
  cases e : f a b with
  | false => rfl
  | true => rw [h a b e]; rfl
theorem sd__law_so (i : ISo) (hb : i.b.Ok) (hw : ∀ w, w ∈ i.ws → WOk i.b.kn i.b.tn w ∧ w.n = i.b.l.n ∧ Le i.b.l w ∧ Le w i.b.h) (hs : sOk (i.b.kn ++ i.b.tn) i.s) (hsd : sDep i.s < 9) (he : eOk (i.b.kn ++ i.b.tn) i.e) (hed : eDep i.e < 9) :
    Sd K 99 (t__law_so K) [some (pyQ i.b.kn i.b.tn), some (.tuple [pyW i.b.l, pyW i.b.h]), some (.list (i.ws.map pyW)), some (pyS i.s), some (pyE i.e), none, none, none, none, none, none] none N fun d => d = .bool true := by
  refine sd_set (e_callr (i.b, i.s) (e_consd (e_var rfl) (e_consd (e_var rfl) (e_consd (e_var rfl) e_nil))) ⟨hb, hs, hsd⟩) (by decide) fun d r => ?_
  subst r
  refine sd_un2 (d1 := pyT i.b.l.n (i.b.b i.e).1) (d2 := pyT i.b.l.n (i.b.b i.e).2) (e_calld (i.b, i.e) (e_consd (e_var rfl) (e_consd (e_var rfl) (e_consd (e_var rfl) e_nil))) ⟨hb, he, hed⟩ fun d r => r) (by decide) (by decide) ?_
  refine sd_seq (sd_forL (ds := i.ws.map pyW) (e_var rfl) (by decide) (fun k es o => ∃ x y z, es = [some (pyQ i.b.kn i.b.tn), some (.tuple [pyW i.b.l, pyW i.b.h]), some (.list (i.ws.map pyW)), some (pyS i.s), some (pyE i.e), some (optD (i.b.t i.s)), some (pyT i.b.l.n (i.b.b i.e).1), some (pyT i.b.l.n (i.b.b i.e).2), x, y, z] ∧ o = none) ⟨none, none, none, rfl, rfl⟩ ?_ ?_)
  · rintro k d es1 o1 hd ⟨x, y, z, rfl, rfl⟩
    obtain ⟨w, hwk, rfl⟩ := get_map hd
    obtain ⟨ok, hn, l1, l2⟩ := hw w (List.mem_of_getElem? hwk)
    have hself : (⟨i.b.kn, i.b.tn, w, w⟩ : IB).Ok := ⟨ok, ok, rfl⟩
    refine sd_set (e_callr (⟨i.b.kn, i.b.tn, w⟩, i.s) (e_consd (e_var rfl) (e_consd (e_var rfl) (e_consd (e_var rfl) e_nil))) ⟨ok, hs, hsd⟩) (by decide) fun d r => ?_
    subst r
    refine sd_when (b := false) ?_ (fun z => nomatch z) fun _ => ?_
    · -- what is told is so
      have so := tell_ok i.b.kn i.b.tn l1 l2 i.s
      cases ht : i.b.t i.s with
      | none =>
        exact (t_and (a := false) (b := false) (t_testd ((e_notN (d := optD (none : Option Bool)) (e_var rfl)).is rfl)) fun z => nomatch z)
      | some c =>
        have hc := so c ht
        refine (t_and (a := true) (b := false) (t_testd ((e_notN (d := optD (some c)) (e_var rfl)).is rfl)) fun _ => t_testd ((e_neB (x := c) (e_var rfl) (e_var rfl)).is ?_))
        rw [show kept (⟨i.b.kn, i.b.tn, w⟩ : IV).kn (⟨i.b.kn, i.b.tn, w⟩ : IV).tn (⟨i.b.kn, i.b.tn, w⟩ : IV).w i.s = c from hc]
        cases c <;> rfl
    refine sd_when (b := false) (t_testd ((e_neB (x := kept i.b.kn i.b.tn w i.s) (y := kept i.b.kn i.b.tn w i.s) (e_calld (⟨i.b.kn, i.b.tn, w, w⟩, i.s) (e_consd (e_var rfl) (e_consd (e_tupd (e_consd (e_var rfl) (e_consd (e_var rfl) e_nil)) (by simp)) (e_consd (e_var rfl) e_nil))) ⟨hself, hs, hsd⟩ fun d r => r.trans (by rw [show (⟨i.b.kn, i.b.tn, w, w⟩ : IB).t i.s = some (kept i.b.kn i.b.tn w i.s) from tell_self i.b.kn i.b.tn w i.s]; rfl)) (e_var rfl)).is (by rw [beq_self_eq_true]; rfl))) (fun z => nomatch z) fun _ => ?_
    refine sd_set (e_callr (w.n, val i.b.kn i.b.tn w i.e) (e_consd (e_calld (⟨i.b.kn, i.b.tn, w⟩, i.e) (e_consd (e_var rfl) (e_consd (e_var rfl) (e_consd (e_var rfl) e_nil))) ⟨ok, he, hed⟩ fun d r => r) e_nil) ok.n) (by decide) fun d r => ?_
    subst r
    have bo := bnd_ok i.b.kn i.b.tn l1 l2 i.e
    refine sd_when (b := false) (t_or (a := false) (b := false) (t_testd ((n_ne (n_and (e_var rfl) (e_var rfl)) (e_var rfl)).is ?_)) fun _ => t_testd ((n_ne (n_and (e_var rfl) (e_var rfl)) (e_var rfl)).is ?_)) (fun z => nomatch z) fun _ => ?_
    · show PyData.bool (!decide (enc i.b.l.n (i.b.b i.e).1 &&& enc w.n (val i.b.kn i.b.tn w i.e) = enc i.b.l.n (i.b.b i.e).1)) = .bool false
      rw [hn, and_sub bo.1, decide_eq_true rfl]; rfl
    · show PyData.bool (!decide (enc w.n (val i.b.kn i.b.tn w i.e) &&& enc i.b.l.n (i.b.b i.e).2 = enc w.n (val i.b.kn i.b.tn w i.e))) = .bool false
      rw [hn, and_sub bo.2, decide_eq_true rfl]; rfl
    have hbs : pyB w.n ((⟨i.b.kn, i.b.tn, w, w⟩ : IB).b i.e) = .tuple [pyT w.n (val i.b.kn i.b.tn w i.e), pyT w.n (val i.b.kn i.b.tn w i.e)] := by
      rw [show (⟨i.b.kn, i.b.tn, w, w⟩ : IB).b i.e = (val i.b.kn i.b.tn w i.e, val i.b.kn i.b.tn w i.e) from bnd_self i.b.kn i.b.tn w i.e]
    have hlay : PyData.canLay0 (.tuple [pyT w.n (val i.b.kn i.b.tn w i.e), pyT w.n (val i.b.kn i.b.tn w i.e)]) = true := by simp [PyData.canLay0, PyData.canLayAll0]
    have hsh : SeqAt.shaped (.tuple [pyT w.n (val i.b.kn i.b.tn w i.e), pyT w.n (val i.b.kn i.b.tn w i.e)]) = true := by
      unfold SeqAt.shaped
      rw [hlay, Bool.true_and, decide_eq_true_iff]
      simp [PyData.depth, PyData.depthAll]
    have hnd : noDict (.tuple [pyT w.n (val i.b.kn i.b.tn w i.e), pyT w.n (val i.b.kn i.b.tn w i.e)]) = true := by simp [noDict, noDictAll]
    refine sd_ifd (b := false) (t_testd ((e_neD (x := .tuple [pyT w.n (val i.b.kn i.b.tn w i.e), pyT w.n (val i.b.kn i.b.tn w i.e)]) (e_calld (⟨i.b.kn, i.b.tn, w, w⟩, i.e) (e_consd (e_var rfl) (e_consd (e_tupd (e_consd (e_var rfl) (e_consd (e_var rfl) e_nil)) (by simp)) (e_consd (e_var rfl) e_nil))) ⟨hself, he, hed⟩ fun d r => r.trans hbs) (e_tupd (e_consd (e_var rfl) (e_consd (e_var rfl) e_nil)) (by simp)) hsh hsh hnd hnd).is ?_)) (fun z => nomatch z) fun _ => sd_next ⟨_, _, _, rfl, rfl⟩
    rw [SeqAt.eqv_refl _ hlay]; rfl
  · rintro es1 o1 ⟨x, y, z, rfl, rfl⟩
    exact sd_retd e_bl rfl
end
end Wf


set_option maxHeartbeats 1000000
/-! What the law draws. -/
namespace Wf
open PySem PySem.Spec PyProof.Rows L2
section
variable {K : PySem.W.Frag} {N : NP} {es : Env} {te ta tb tc : TE} {tA : TA}
/-! ### spots -/
def spotsK (n m : Nat) : List Spot := (List.range m).flatMap fun k => (List.range n).map fun a => ⟨true, k, a⟩
def spotsT (n m : Nat) : List Spot := (List.range m).flatMap fun k => (List.range (n * n)).map fun a => ⟨false, k, a⟩
theorem spotsK_len (n : Nat) : ∀ m, (spotsK n m).length = m * n
  | 0 => by simp [spotsK]
  | m + 1 => by
    have ih := spotsK_len n m
    unfold spotsK at ih ⊢
    rw [range_one, List.length_append, ih, List.length_map, List.length_range, Nat.succ_mul]
theorem spotsT_len (n : Nat) : ∀ m, (spotsT n m).length = m * (n * n)
  | 0 => by simp [spotsT]
  | m + 1 => by
    have ih := spotsT_len n m
    unfold spotsT at ih ⊢
    rw [range_one, List.length_append, ih, List.length_map, List.length_range, Nat.succ_mul]
theorem e_lenN {xs : List Str} (h : Ed K te es (pyN xs)) : Ed K (tCB (qLen K) (tCons te tNil)) es (nI xs.length) :=
  (e_lenSeq (d := .none) (ds := xs.map PyData.str) (h.weak fun x e => .inr (.inr ⟨xs, e, rfl⟩))).is (by rw [List.length_map])
theorem pow_one_shl (a : Nat) : 1 <<< a = 2 ^ a := by rw [Nat.shiftLeft_eq, Nat.one_mul]
theorem sd__law_spots (kn tn : List Str) (n : Nat) (h1 : kn.length ≤ 4) (h2 : tn.length ≤ 4) (hn : n ≤ 4) :
    Sd K 99 (t__law_spots K) [some (pyQ kn tn), some (nI n), none, none, none] none N fun d => ∃ ss : List Spot, d = .list (ss.map pySp) ∧ ss.length ≤ 80 ∧ ∀ s, s ∈ ss → SpOk kn tn n s := by
  have h16 := sq16 hn
  refine sd_setd (d := .list []) (e_lstd e_nil (by simp)) (by decide) ?_
  refine sd_seq (sd_forR (n := (kn.length : Int)) (e_consd (e_lenN (xs := kn) (e_t0 (e_var rfl))) e_nil) (by decide) (fun k es o => ∃ x, es = [some (pyQ kn tn), some (nI n), some (.list ((spotsK n k).map pySp)), x, none] ∧ o = none) ⟨none, rfl, rfl⟩ ?_ ?_)
  · rintro k es1 o1 hk ⟨x, rfl, rfl⟩
    have hk : k < kn.length := by omega
    refine sd_asg (e_cat (e_var rfl) (e_lcRn (n := n) (g := fun a => pySp ⟨true, k, a⟩) (e_consd (e_var rfl) e_nil) (by omega) (by decide) fun a ha => ?_) ?_) (by decide) fun d e => ?_
    · exact e_tupd (e_consd (n_c (n := 1)) (e_consd (e_var rfl) (e_consd ((n_shl (n_c (n := 1)) (e_var (d := nI a) rfl) (by omega) (by omega)).is (by rw [pow_one_shl])) e_nil))) (by simp)
    · rw [List.length_map, spotsK_len, List.length_map, List.length_range]
      have : k * n ≤ 4 * 4 := Nat.mul_le_mul (by omega) hn
      omega
    · subst e
      refine ⟨some (nI k), ?_, rfl⟩
      unfold spotsK
      rw [range_one, List.map_append, List.map_map]; rfl
  rintro es1 o1 ⟨x, rfl, rfl⟩
  rw [Int.toNat_natCast]
  refine sd_seq (sd_forR (n := (tn.length : Int)) (e_consd (e_lenN (xs := tn) (e_t1 (e_var rfl))) e_nil) (by decide) (fun k es o => ∃ x, es = [some (pyQ kn tn), some (nI n), some (.list ((spotsK n kn.length ++ spotsT n k).map pySp)), x, none] ∧ o = none) ⟨x, ?_, rfl⟩ ?_ ?_)
  · rw [show spotsT n 0 = [] from rfl, List.append_nil]
  · rintro k es1 o1 hk ⟨x, rfl, rfl⟩
    have hk : k < tn.length := by omega
    refine sd_asg (e_cat (e_var rfl) (e_lcRn (n := n * n) (g := fun a => pySp ⟨false, k, a⟩) (e_consd (n_mul (a := n) (b := n) (e_var rfl) (e_var rfl) (by omega)) e_nil) (by omega) (by decide) fun a ha => ?_) ?_) (by decide) fun d e => ?_
    · exact e_tupd (e_consd (n_c (n := 2)) (e_consd (e_var rfl) (e_consd ((n_shl (n_c (n := 1)) (e_var (d := nI a) rfl) (by omega) (by omega)).is (by rw [pow_one_shl])) e_nil))) (by simp)
    · rw [List.length_map, List.length_append, spotsK_len, spotsT_len, List.length_map, List.length_range]
      have q1 : kn.length * n ≤ 4 * 4 := Nat.mul_le_mul h1 hn
      have q2 : k * (n * n) ≤ 4 * 16 := Nat.mul_le_mul (by omega) h16
      omega
    · subst e
      refine ⟨some (nI k), ?_, rfl⟩
      unfold spotsT
      rw [range_one, ← List.append_assoc, List.map_append (l₂ := List.map _ _), List.map_map (l := List.range (n * n))]; rfl
  · rintro es1 o1 ⟨x, rfl, rfl⟩
    refine sd_retd (e_var rfl) ⟨spotsK n kn.length ++ spotsT n tn.length, by rw [Int.toNat_natCast], ?_, fun s hs => ?_⟩
    · rw [List.length_append, spotsK_len, spotsT_len]
      have q1 : kn.length * n ≤ 4 * 4 := Nat.mul_le_mul h1 hn
      have q2 : tn.length * (n * n) ≤ 4 * 16 := Nat.mul_le_mul h2 h16
      omega
    · rcases List.mem_append.mp hs with h | h
      · obtain ⟨k, hk, h⟩ := List.mem_flatMap.mp h
        obtain ⟨a, ha, rfl⟩ := List.mem_map.mp h
        exact ⟨List.mem_range.mp hk, List.mem_range.mp ha⟩
      · obtain ⟨k, hk, h⟩ := List.mem_flatMap.mp h
        obtain ⟨a, ha, rfl⟩ := List.mem_map.mp h
        exact ⟨List.mem_range.mp hk, List.mem_range.mp ha⟩
/-! ### draws -/
theorem e_next {m : Nat} (h1 : Ed K ta es purseD) (h2 : Ed K tb es (nI m)) (h0 : 1 ≤ m) (hm : m ≤ 100000000) : Ep K (tCall (sp__law_next K) [] E0 (tCons ta (tCons tb tNil))) es fun d => ∃ r : Nat, d = nI r ∧ r < m :=
  e_callr m (e_consd h1 (e_consd h2 e_nil)) ⟨h0, hm⟩
/-- an item drawn out of a row -/
theorem e_pick {ds : List PyData} (h : Ed K ta es (.list ds)) (hb : Ep K tb es fun d => ∃ r : Nat, d = nI r ∧ r < ds.length) : Ep K (tOp (rIxL K) ta tb) es fun d => d ∈ ds :=
  e_op h hb fun x y ex ey => by
    obtain ⟨r, rfl, hr⟩ := ey
    subst ex
    exact r_ixL (atI_n (List.getElem?_eq_getElem hr)) (List.getElem_mem hr)
theorem sd__law_size : Sd K 99 (t__law_size K) [some purseD] none N fun d => ∃ n : Nat, d = nI n ∧ n ≤ 4 := by
  refine sd_ret ((e_pick (ds := [nI 2, nI 3, nI 1, nI 2, nI 3, nI 4, nI 0, nI 2, nI 3, nI 4]) (e_lstd (e_consd e_int (e_consd e_int (e_consd e_int (e_consd e_int (e_consd e_int (e_consd e_int (e_consd e_int (e_consd e_int (e_consd e_int (e_consd e_int e_nil)))))))))) (by simp)) (e_next (e_var rfl) (n_c (n := 10)) (by decide) (by decide))).weak fun d hd => ?_)
  simp only [List.mem_cons, List.not_mem_nil, or_false] at hd
  rcases hd with rfl | rfl | rfl | rfl | rfl | rfl | rfl | rfl | rfl | rfl <;> exact ⟨_, rfl, by decide⟩
/-! ### picked -/
theorem lay_sp (s : Spot) : (pySp s).canLay0 = true := by simp [PyData.canLay0, PyData.canLayAll0]
theorem depth_sp (s : Spot) : (pySp s).depth ≤ 2 := by simp [PyData.depth, PyData.depthAll]
theorem noDict_sp (s : Spot) : noDict (pySp s) = true := by simp [noDict, noDictAll]
theorem shaped_sp (s : Spot) : SeqAt.shaped (pySp s) = true := by
  unfold SeqAt.shaped
  rw [lay_sp, Bool.true_and, decide_eq_true_iff]
  exact Nat.le_trans (depth_sp s) (by decide)
theorem shaped_sps (ss : List Spot) : SeqAt.shaped (.list (ss.map pySp)) = true := by
  unfold SeqAt.shaped
  rw [Bool.and_eq_true]
  constructor
  · rw [PyData.canLay0]; exact lay_all lay_sp _
  · rw [decide_eq_true_iff, PyData.depth]
    have := depth_all (k := 2) depth_sp ss
    omega
theorem sd__law_picked (ss : List Spot) (m : Nat) (hl : ss.length ≤ 80) (hm : m ≤ 4) : Sd K 3 (t__law_picked K) [some (.list (ss.map pySp)), some purseD, some (nI m), none, none, none] none N fun d => ∃ ps : List Spot, d = .list (ps.map pySp) ∧ ps.length ≤ m ∧ ∀ s, s ∈ ps → s ∈ ss := by
  refine sd_seq (sd_own (ef_lst e_nil fun ds e => by rw [e]; decide) (by simp) fun ds e => ?_)
  subst e
  refine sd_seq (sd_forR (n := (m : Int)) (e_consd (e_var rfl) e_nil) (by decide) (fun k es o => ∃ x y, ∃ ps : List Spot, es = [some (.list (ss.map pySp)), some purseD, some (nI m), none, x, y] ∧ o = some (ps.map pySp) ∧ ps.length ≤ k ∧ ∀ s, s ∈ ps → s ∈ ss) ⟨none, none, [], rfl, rfl, Nat.le_refl _, fun _ h => nomatch h⟩ ?_ ?_)
  · rintro k es1 o1 hk ⟨x, y, ps, rfl, rfl, hp, hq⟩
    have hlen : Ed K (tCB (qLen K) (tCons (tVar 0) tNil)) ([some (.list (ss.map pySp)), some purseD, some (nI m), none, some (nI k), y] : Env) (nI ss.length) := (e_lenSeq (d := .none) (ds := ss.map pySp) ((e_var rfl).weak fun x e => .inl e)).is (by rw [List.length_map])
    refine sd_ifd (b := decide (0 < ss.length)) (t_testd (n_gt hlen (n_c (n := 0)))) (fun e => ?_) fun _ => sd_next ⟨some (nI k), y, ps, rfl, rfl, by omega, hq⟩
    have h0 := of_decide_eq_true e
    refine sd_set (e_pick (ds := ss.map pySp) (e_var rfl) ((e_next (m := ss.length) (e_var rfl) hlen h0 (by omega)).weak fun d ⟨r, h1, h2⟩ => ⟨r, h1, by rw [List.length_map]; exact h2⟩)) (by decide) fun d hd => ?_
    obtain ⟨s, hs, rfl⟩ := List.mem_map.mp hd
    refine sd_ifV (t_testd (e_notInD (x := pySp s) (ys := ps.map pySp) (e_var rfl) (e_var rfl) (shaped_sp s) (shaped_sps ps) (noDict_sp s) (by rw [noDict]; exact noDict_all noDict_sp ps))) (fun _ => ?_) fun _ => sd_next ⟨some (nI k), some (pySp s), ps, rfl, rfl, by omega, hq⟩
    refine sd_app (e_var rfl) (by rw [List.length_map]; omega) fun d ed => ?_
    subst ed
    refine ⟨some (nI k), some (pySp s), ps ++ [s], rfl, by rw [List.map_append]; rfl, by rw [List.length_append, List.length_singleton]; omega, fun z hz => ?_⟩
    rcases List.mem_append.mp hz with h | h
    · exact hq z h
    · rw [List.mem_singleton.mp h]; exact hs
  · rintro es1 o1 ⟨x, y, ps, rfl, rfl, hp, hq⟩
    refine sd_freeze (sd_retd (e_var rfl) ⟨ps, rfl, ?_, hq⟩)
    rw [Int.toNat_natCast] at hp
    exact hp
/-! ### leaves, expressions, facts, sayings -/
theorem sd__law_leaf (nm : List Str) (hl : nm.length ≤ 8) : Sd K 99 (t__law_leaf K) [some purseD, some (pyL nm), none, none] none N fun d => ∃ e : E, d = pyE e ∧ eOk nm e ∧ eDep e = 0 := by
  refine sd_setd (d := .list (nm.map (fun s => pyE (.name s)) ++ [pyE .same, pyE .all, pyE .none])) (e_cat (e_lcTm (l := nm) (f := .str) (g := fun s => pyE (.name s)) (xs := nm.map .str) ((e_var rfl).weak fun d e => .inl e) rfl (by omega) (by decide) fun s _ => ?_) (e_lstd (e_consd ?_ (e_consd ?_ (e_consd ?_ e_nil))) (by simp)) ?_) (by decide) ?_
  · exact e_tupd (e_consd e_str (e_consd (e_var rfl) e_nil)) (by simp)
  · exact e_tupd (e_consd e_str e_nil) (by simp)
  · exact e_tupd (e_consd e_str e_nil) (by simp)
  · exact e_tupd (e_consd e_str e_nil) (by simp)
  · simp; omega
  have hlen : (nm.map (fun s => pyE (.name s)) ++ [pyE .same, pyE .all, pyE .none]).length = nm.length + 3 := by simp
  refine sd_ret ((e_pick (e_var rfl) ((e_next (m := nm.length + 3) (e_var rfl) ((e_lenSeq (d := .none) ((e_var rfl).weak fun x e => .inl e)).is (by rw [hlen])) (by omega) (by omega)).weak fun d ⟨r, h1, h2⟩ => ⟨r, h1, by rw [hlen]; exact h2⟩)).weak fun d hd => ?_)
  rcases List.mem_append.mp hd with h | h
  · obtain ⟨s, hs, rfl⟩ := List.mem_map.mp h
    exact ⟨.name s, rfl, hs, rfl⟩
  · simp only [List.mem_cons, List.not_mem_nil, or_false] at h
    rcases h with rfl | rfl | rfl
    · exact ⟨.same, rfl, trivial, rfl⟩
    · exact ⟨.all, rfl, trivial, rfl⟩
    · exact ⟨.none, rfl, trivial, rfl⟩
/-- a word drawn by a number that is known -/
theorem e_word {ds : List PyData} {k : Nat} {d : PyData} (h : Ed K ta es (.list ds)) (hb : Ed K tb es (nI k)) (e : ds[k]? = some d) : Ed K (tOp (rIxL K) ta tb) es d := e_lk h hb e
/-- a style drawn where there is room, else 0 -/
theorem sd_style {i : Nat} {dp k : Nat} {tz : TS} {R : PyData → Prop} {rest : List (Option PyData)} (hk : 1 ≤ k) (hk2 : k ≤ 100) (nm : List Str) (h : ∀ r : Nat, r < k → (0 < r → 0 < dp) → Sd K 99 tz (some purseD :: some (nI dp) :: some (pyL nm) :: some (nI r) :: rest) none N R) :
    Sd K 99 (tSeq (tIfS (tTest (tOp qGt (tVar 1) (tC (.int 0)))) (tAsg (tCall (sp__law_next K) [] E0 (tCons (tVar 0) (tCons (tC (.int (k : Int))) tNil))) (gName 3)) tNext) tz) (some purseD :: some (nI dp) :: some (pyL nm) :: some (nI 0) :: rest) none N R := by
  refine sd_when (b := decide (0 < dp)) (t_testd (n_gt (e_var rfl) (n_c (n := 0)))) (fun e => ?_) fun e => h 0 (by omega) (fun z => absurd z (Nat.lt_irrefl 0))
  refine sd_asg (e_next (m := k) (e_var rfl) n_c hk (by omega)) (by decide) fun d ⟨r, hd, hr⟩ => ?_
  subst hd
  exact h r hr fun _ => of_decide_eq_true e
theorem sd__law_expression {m : Nat} (dp : Nat) (nm : List Str) (hl : nm.length ≤ 8) (hd : dp < m + 1) : Sd K 99 (t__law_expression K m) [some purseD, some (nI dp), some (pyL nm), none, none, none] none N fun d => ∃ e : E, d = pyE e ∧ eOk nm e ∧ eDep e ≤ dp := by
  refine sd_setd (d := nI 0) e_int (by decide) ?_
  refine sd_style (k := 9) (i := 0) (by decide) (by decide) nm fun r hr h0 => ?_
  refine sd_when (b := decide (r = 0)) (t_testd (n_eq (e_var rfl) (n_c (n := 0)))) (fun e => ?_) fun e => ?_
  · exact sd_ret (e_calld nm (e_consd (e_var rfl) (e_consd (e_var rfl) e_nil)) hl fun d ⟨e, h1, h2, h3⟩ => ⟨e, h1, h2, by omega⟩)
  have hr0 : ¬ r = 0 := of_decide_eq_false e
  have hdp : 0 < dp := h0 (by omega)
  have hsub : dp - 1 < m := by omega
  refine sd_set (e_callr (dp - 1, nm) (e_consd (e_var rfl) (e_consd (n_sub (e_var rfl) (n_c (n := 1)) hdp) (e_consd (e_var rfl) e_nil))) ⟨hl, hsub⟩) (by decide) fun d ⟨e1, h1, ok1, dep1⟩ => ?_
  subst h1
  have dep1 : eDep e1 ≤ dp - 1 := dep1
  refine sd_when (b := decide (r < 3)) (t_testd (n_lt (e_var rfl) (n_c (n := 3)))) (fun e => ?_) fun e => ?_
  · have hr3 := of_decide_eq_true e
    have q : r = 1 ∨ r = 2 := by omega
    rcases q with rfl | rfl
    · exact sd_retd (e_tupd (e_consd (e_word (k := 0) (d := .str "turned") (e_lstd (e_consd e_str (e_consd e_str e_nil)) (by simp)) (n_sub (a := 1) (e_var rfl) (n_c (n := 1)) (by decide)) rfl) (e_consd (e_var rfl) e_nil)) (by simp)) ⟨.turned e1, rfl, ok1, by show eDep e1 + 1 ≤ dp; omega⟩
    · exact sd_retd (e_tupd (e_consd (e_word (k := 1) (d := .str "closed") (e_lstd (e_consd e_str (e_consd e_str e_nil)) (by simp)) (n_sub (a := 2) (e_var rfl) (n_c (n := 1)) (by decide)) rfl) (e_consd (e_var rfl) e_nil)) (by simp)) ⟨.closed e1, rfl, ok1, by show eDep e1 + 1 ≤ dp; omega⟩
  have hr3 : ¬ r < 3 := of_decide_eq_false e
  refine sd_set (e_callr (dp - 1, nm) (e_consd (e_var rfl) (e_consd (n_sub (e_var rfl) (n_c (n := 1)) hdp) (e_consd (e_var rfl) e_nil))) ⟨hl, hsub⟩) (by decide) fun d ⟨e2, h2, ok2, dep2⟩ => ?_
  subst h2
  have dep2 : eDep e2 ≤ dp - 1 := dep2
  have dep : max (eDep e1) (eDep e2) + 1 ≤ dp := by omega
  have six : ∀ es : Env, Ed K (tLst (tCons (tC (.str "plus")) (tCons (tC (.str "less")) (tCons (tC (.str "both")) (tCons (tC (.str "joined")) (tCons (tC (.str "less")) (tCons (tC (.str "joined")) tNil))))))) es (.list [.str "plus", .str "less", .str "both", .str "joined", .str "less", .str "joined"]) := fun es =>
    e_lstd (e_consd e_str (e_consd e_str (e_consd e_str (e_consd e_str (e_consd e_str (e_consd e_str e_nil)))))) (by simp)
  have q : r = 3 ∨ r = 4 ∨ r = 5 ∨ r = 6 ∨ r = 7 ∨ r = 8 := by omega
  rcases q with rfl | rfl | rfl | rfl | rfl | rfl
  · exact sd_retd (e_tupd (e_consd (e_word (k := 0) (d := .str "plus") (six _) (n_sub (a := 3) (e_var rfl) (n_c (n := 3)) (by decide)) rfl) (e_consd (e_var rfl) (e_consd (e_var rfl) e_nil))) (by simp)) ⟨.plus e1 e2, rfl, ⟨ok1, ok2⟩, dep⟩
  · exact sd_retd (e_tupd (e_consd (e_word (k := 1) (d := .str "less") (six _) (n_sub (a := 4) (e_var rfl) (n_c (n := 3)) (by decide)) rfl) (e_consd (e_var rfl) (e_consd (e_var rfl) e_nil))) (by simp)) ⟨.less e1 e2, rfl, ⟨ok1, ok2⟩, dep⟩
  · exact sd_retd (e_tupd (e_consd (e_word (k := 2) (d := .str "both") (six _) (n_sub (a := 5) (e_var rfl) (n_c (n := 3)) (by decide)) rfl) (e_consd (e_var rfl) (e_consd (e_var rfl) e_nil))) (by simp)) ⟨.both e1 e2, rfl, ⟨ok1, ok2⟩, dep⟩
  · exact sd_retd (e_tupd (e_consd (e_word (k := 3) (d := .str "joined") (six _) (n_sub (a := 6) (e_var rfl) (n_c (n := 3)) (by decide)) rfl) (e_consd (e_var rfl) (e_consd (e_var rfl) e_nil))) (by simp)) ⟨.joined e1 e2, rfl, ⟨ok1, ok2⟩, dep⟩
  · exact sd_retd (e_tupd (e_consd (e_word (k := 4) (d := .str "less") (six _) (n_sub (a := 7) (e_var rfl) (n_c (n := 3)) (by decide)) rfl) (e_consd (e_var rfl) (e_consd (e_var rfl) e_nil))) (by simp)) ⟨.less e1 e2, rfl, ⟨ok1, ok2⟩, dep⟩
  · exact sd_retd (e_tupd (e_consd (e_word (k := 5) (d := .str "joined") (six _) (n_sub (a := 8) (e_var rfl) (n_c (n := 3)) (by decide)) rfl) (e_consd (e_var rfl) (e_consd (e_var rfl) e_nil))) (by simp)) ⟨.joined e1 e2, rfl, ⟨ok1, ok2⟩, dep⟩
/-- an expression drawn -/
theorem e_expr {k : Nat} {nm : List Str} (h1 : Ed K ta es purseD) (h2 : Ep K tb es fun d => ∃ r : Nat, d = nI r ∧ r < k) (h3 : Ed K tc es (pyL nm)) (hk : k ≤ 4) (hl : nm.length ≤ 8) :
    Ep K (tCall (sp__law_expression K 9) [] E0 (tCons ta (tCons tb (tCons tc tNil)))) es fun d => ∃ e : E, d = pyE e ∧ eOk nm e ∧ eDep e < 9 :=
  e_call (PA := fun ds => ∃ r : Nat, ds = [purseD, nI r, pyL nm] ∧ r < k)
    (e_cons h1 (e_cons (PR := fun ds => ∃ r : Nat, ds = [nI r, pyL nm] ∧ r < k) h2 (e_consd h3 e_nil) fun d ds ⟨r, e1, hr⟩ e2 => ⟨r, by rw [e1, e2], hr⟩) fun d ds e1 ⟨r, e2, hr⟩ => ⟨r, by rw [e1, e2], hr⟩)
    fun ds ⟨r, e, hr⟩ => ⟨(r, nm), e.symm, ⟨hl, by show r < 9; omega⟩, fun d ⟨x, q1, q2, q3⟩ => ⟨x, q1, q2, by have q3 : eDep x ≤ r := q3; omega⟩⟩
theorem ok1 {nm : List Str} {e : E} (h1 : eOk nm e) (h2 : eDep e < 9) : ∀ x, x ∈ [e] → eOk nm x ∧ eDep x < 9 := fun x hx => by rw [List.mem_singleton.mp hx]; exact ⟨h1, h2⟩
theorem ok2 {nm : List Str} {e f : E} (h1 : eOk nm e) (h2 : eDep e < 9) (h3 : eOk nm f) (h4 : eDep f < 9) : ∀ x, x ∈ [e, f] → eOk nm x ∧ eDep x < 9 := fun x hx => by
  rcases List.mem_cons.mp hx with rfl | hx
  · exact ⟨h1, h2⟩
  · rw [List.mem_singleton.mp hx]; exact ⟨h3, h4⟩
theorem sd__law_fact (nm : List Str) (hl : nm.length ≤ 8) : Sd K 99 (t__law_fact K) [some purseD, some (pyL nm), none, none, none] none N fun d => ∃ s : Sg, d = pyS s ∧ sOk nm s ∧ sDep s = 0 := by
  refine sd_set (e_next (m := 8) (e_var rfl) (n_c (n := 8)) (by decide) (by decide)) (by decide) fun d ⟨r, hd, hr⟩ => ?_
  subst hd
  refine sd_set (e_expr (k := 4) (e_var rfl) (e_next (m := 4) (e_var rfl) (n_c (n := 4)) (by decide) (by decide)) (e_var rfl) (by decide) hl) (by decide) fun d ⟨e1, hd, o1, dp1⟩ => ?_
  subst hd
  refine sd_when (b := decide (r < 2)) (t_testd (n_lt (e_var rfl) (n_c (n := 2)))) (fun e => ?_) fun e => ?_
  · have hr2 := of_decide_eq_true e
    have two : ∀ es : Env, Ed K (tLst (tCons (tC (.str "in")) (tCons (tC (.str "equal")) tNil))) es (.list [.str "in", .str "equal"]) := fun es => e_lstd (e_consd e_str (e_consd e_str e_nil)) (by simp)
    have q : r = 0 ∨ r = 1 := by omega
    rcases q with rfl | rfl
    · refine sd_ret (e_tup (PA := fun ds => ∃ e2 : E, ds = [.str "in", pyE e1, pyE e2] ∧ eOk nm e2 ∧ eDep e2 < 9) (e_cons (PR := fun ds => ∃ e2 : E, ds = [.str "in", pyE e1, pyE e2] ∧ eOk nm e2 ∧ eDep e2 < 9) (e_word (k := 0) (d := .str "in") (two _) (e_var rfl) rfl)
        (e_cons (PR := fun ds => ∃ e2 : E, ds = [pyE e1, pyE e2] ∧ eOk nm e2 ∧ eDep e2 < 9) (e_var (d := pyE e1) rfl) (e_cons (PR := fun ds => ∃ e2 : E, ds = [pyE e2] ∧ eOk nm e2 ∧ eDep e2 < 9) (e_expr (k := 3) (e_var rfl) (e_next (m := 3) (e_var rfl) (n_c (n := 3)) (by decide) (by decide)) (e_var rfl) (by decide) hl) e_nil
          fun d ds ⟨x, q1, q2⟩ q3 => ⟨x, by rw [q1, q3], q2⟩) fun d ds q1 ⟨x, q2, q3⟩ => ⟨x, by rw [q1, q2], q3⟩) fun d ds q1 ⟨x, q2, q3⟩ => ⟨x, by rw [q1, q2], q3⟩) (fun ds ⟨x, q, _⟩ => by rw [q]; simp) fun ds ⟨x, q, o2, dp2⟩ => ⟨.inn e1 x, by rw [q]; rfl, ok2 o1 dp1 o2 dp2, rfl⟩)
    · refine sd_ret (e_tup (PA := fun ds => ∃ e2 : E, ds = [.str "equal", pyE e1, pyE e2] ∧ eOk nm e2 ∧ eDep e2 < 9) (e_cons (PR := fun ds => ∃ e2 : E, ds = [.str "equal", pyE e1, pyE e2] ∧ eOk nm e2 ∧ eDep e2 < 9) (e_word (k := 1) (d := .str "equal") (two _) (e_var rfl) rfl)
        (e_cons (PR := fun ds => ∃ e2 : E, ds = [pyE e1, pyE e2] ∧ eOk nm e2 ∧ eDep e2 < 9) (e_var (d := pyE e1) rfl) (e_cons (PR := fun ds => ∃ e2 : E, ds = [pyE e2] ∧ eOk nm e2 ∧ eDep e2 < 9) (e_expr (k := 3) (e_var rfl) (e_next (m := 3) (e_var rfl) (n_c (n := 3)) (by decide) (by decide)) (e_var rfl) (by decide) hl) e_nil
          fun d ds ⟨x, q1, q2⟩ q3 => ⟨x, by rw [q1, q3], q2⟩) fun d ds q1 ⟨x, q2, q3⟩ => ⟨x, by rw [q1, q2], q3⟩) fun d ds q1 ⟨x, q2, q3⟩ => ⟨x, by rw [q1, q2], q3⟩) (fun ds ⟨x, q, _⟩ => by rw [q]; simp) fun ds ⟨x, q, o2, dp2⟩ => ⟨.equal e1 x, by rw [q]; rfl, ok2 o1 dp1 o2 dp2, rfl⟩)
  have hr2 : ¬ r < 2 := of_decide_eq_false e
  refine sd_when (b := decide (r < 4)) (t_testd (n_lt (e_var rfl) (n_c (n := 4)))) (fun e => ?_) fun e => ?_
  · have hr4 := of_decide_eq_true e
    have two : ∀ es : Env, Ed K (tLst (tCons (tC (.str "some")) (tCons (tC (.str "no")) tNil))) es (.list [.str "some", .str "no"]) := fun es => e_lstd (e_consd e_str (e_consd e_str e_nil)) (by simp)
    have q : r = 2 ∨ r = 3 := by omega
    rcases q with rfl | rfl
    · exact sd_retd (e_tupd (e_consd (e_word (k := 0) (d := .str "some") (two _) (n_sub (a := 2) (e_var rfl) (n_c (n := 2)) (by decide)) rfl) (e_consd (e_var rfl) e_nil)) (by simp)) ⟨.some e1, rfl, ok1 o1 dp1, rfl⟩
    · exact sd_retd (e_tupd (e_consd (e_word (k := 1) (d := .str "no") (two _) (n_sub (a := 3) (e_var rfl) (n_c (n := 2)) (by decide)) rfl) (e_consd (e_var rfl) e_nil)) (by simp)) ⟨.no e1, rfl, ok1 o1 dp1, rfl⟩
  have hr4 : ¬ r < 4 := of_decide_eq_false e
  refine sd_set (P := fun d => ∃ k : Nat, d = nI k) (e_call (PA := fun ds => ∃ k : Nat, ds = [purseD, nI k] ∧ 1 ≤ k ∧ k ≤ 100) (e_cons (PR := fun ds => ∃ k : Nat, ds = [purseD, nI k] ∧ 1 ≤ k ∧ k ≤ 100) (e_var (d := purseD) rfl)
    (e_cons (PR := fun ds => ∃ k : Nat, ds = [nI k] ∧ 1 ≤ k ∧ k ≤ 100) (P := fun d => ∃ k : Nat, d = nI k ∧ 1 ≤ k ∧ k ≤ 100) ((e_pick (ds := [nI 5, nI 18, nI 100]) (e_lstd (e_consd e_int (e_consd e_int (e_consd e_int e_nil))) (by simp)) (e_next (m := 3) (e_var rfl) (n_c (n := 3)) (by decide) (by decide))).weak fun d hd => by
      simp only [List.mem_cons, List.not_mem_nil, or_false] at hd
      rcases hd with rfl | rfl | rfl
      · exact ⟨5, rfl, by decide, by decide⟩
      · exact ⟨18, rfl, by decide, by decide⟩
      · exact ⟨100, rfl, by decide, by decide⟩) e_nil fun d ds ⟨k, q1, q2⟩ q3 => ⟨k, by rw [q1, q3], q2⟩) fun d ds q1 ⟨k, q2, q3⟩ => ⟨k, by rw [q1, q2], q3⟩) fun ds ⟨k, q, h1, h2⟩ => ⟨k, q.symm, ⟨h1, by omega⟩, fun d ⟨r, q, _⟩ => ⟨r, q⟩⟩) (by decide) fun d ⟨k, hd⟩ => ?_
  subst hd
  have four : ∀ es : Env, Ed K (tLst (tCons (tC (.str "least")) (tCons (tC (.str "most")) (tCons (tC (.str "eachleast")) (tCons (tC (.str "eachmost")) tNil))))) es (.list [.str "least", .str "most", .str "eachleast", .str "eachmost"]) := fun es => e_lstd (e_consd e_str (e_consd e_str (e_consd e_str (e_consd e_str e_nil)))) (by simp)
  have q : r = 4 ∨ r = 5 ∨ r = 6 ∨ r = 7 := by omega
  rcases q with rfl | rfl | rfl | rfl
  · exact sd_retd (e_tupd (e_consd (e_word (k := 0) (d := .str "least") (four _) (n_sub (a := 4) (e_var rfl) (n_c (n := 4)) (by decide)) rfl) (e_consd (e_var rfl) (e_consd (e_var rfl) e_nil))) (by simp)) ⟨.least k e1, rfl, ok1 o1 dp1, rfl⟩
  · exact sd_retd (e_tupd (e_consd (e_word (k := 1) (d := .str "most") (four _) (n_sub (a := 5) (e_var rfl) (n_c (n := 4)) (by decide)) rfl) (e_consd (e_var rfl) (e_consd (e_var rfl) e_nil))) (by simp)) ⟨.most k e1, rfl, ok1 o1 dp1, rfl⟩
  · exact sd_retd (e_tupd (e_consd (e_word (k := 2) (d := .str "eachleast") (four _) (n_sub (a := 6) (e_var rfl) (n_c (n := 4)) (by decide)) rfl) (e_consd (e_var rfl) (e_consd (e_var rfl) e_nil))) (by simp)) ⟨.eachleast k e1, rfl, ok1 o1 dp1, rfl⟩
  · exact sd_retd (e_tupd (e_consd (e_word (k := 3) (d := .str "eachmost") (four _) (n_sub (a := 7) (e_var rfl) (n_c (n := 4)) (by decide)) rfl) (e_consd (e_var rfl) (e_consd (e_var rfl) e_nil))) (by simp)) ⟨.eachmost k e1, rfl, ok1 o1 dp1, rfl⟩
theorem sd__law_saying {m : Nat} (dp : Nat) (nm : List Str) (hl : nm.length ≤ 8) (hd : dp < m + 1) : Sd K 99 (t__law_saying K m) [some purseD, some (nI dp), some (pyL nm), none, none] none N fun d => ∃ s : Sg, d = pyS s ∧ sOk nm s ∧ sDep s ≤ dp := by
  refine sd_setd (d := nI 0) e_int (by decide) ?_
  refine sd_style (k := 6) (i := 0) (by decide) (by decide) nm fun r hr h0 => ?_
  refine sd_when (b := decide (r < 3)) (t_testd (n_lt (e_var rfl) (n_c (n := 3)))) (fun e => ?_) fun e => ?_
  · exact sd_ret (e_calld nm (e_consd (e_var rfl) (e_consd (e_var rfl) e_nil)) hl fun d ⟨s, h1, h2, h3⟩ => ⟨s, h1, h2, by omega⟩)
  have hr3 : ¬ r < 3 := of_decide_eq_false e
  have hdp : 0 < dp := h0 (by omega)
  have hsub : dp - 1 < m := by omega
  refine sd_set (e_callr (dp - 1, nm) (e_consd (e_var rfl) (e_consd (n_sub (e_var rfl) (n_c (n := 1)) hdp) (e_consd (e_var rfl) e_nil))) ⟨hl, hsub⟩) (by decide) fun d ⟨s1, h1, o1, dep1⟩ => ?_
  subst h1
  have dep1 : sDep s1 ≤ dp - 1 := dep1
  refine sd_when (b := decide (r = 3)) (t_testd (n_eq (e_var rfl) (n_c (n := 3)))) (fun e => ?_) fun e => ?_
  · exact sd_retd (e_tupd (e_consd e_str (e_consd (e_var rfl) e_nil)) (by simp)) ⟨.not s1, rfl, o1, by show sDep s1 + 1 ≤ dp; omega⟩
  have hr4 : ¬ r = 3 := of_decide_eq_false e
  have two : ∀ es : Env, Ed K (tLst (tCons (tC (.str "and")) (tCons (tC (.str "or")) tNil))) es (.list [.str "and", .str "or"]) := fun es => e_lstd (e_consd e_str (e_consd e_str e_nil)) (by simp)
  have again : ∀ es : Env, es[0]? = some (some purseD) → es[1]? = some (some (nI dp)) → es[2]? = some (some (pyL nm)) → Ep K (tCall (sp__law_saying K m) [] E0 (tCons (tVar 0) (tCons (tOp qSub (tVar 1) (tC (.int 1))) (tCons (tVar 2) tNil)))) es fun d => ∃ s : Sg, d = pyS s ∧ sOk nm s ∧ sDep s ≤ dp - 1 := fun es q0 q1 q2 =>
    e_callr (dp - 1, nm) (e_consd (e_var q0) (e_consd (n_sub (e_var q1) (n_c (n := 1)) hdp) (e_consd (e_var q2) e_nil))) ⟨hl, hsub⟩
  have q : r = 4 ∨ r = 5 := by omega
  rcases q with rfl | rfl
  · refine sd_ret (e_tup (PA := fun ds => ∃ s2 : Sg, ds = [.str "and", pyS s1, pyS s2] ∧ sOk nm s2 ∧ sDep s2 ≤ dp - 1) (e_cons (PR := fun ds => ∃ s2 : Sg, ds = [.str "and", pyS s1, pyS s2] ∧ sOk nm s2 ∧ sDep s2 ≤ dp - 1) (e_word (k := 0) (d := .str "and") (two _) (n_sub (a := 4) (e_var rfl) (n_c (n := 4)) (by decide)) rfl)
      (e_cons (PR := fun ds => ∃ s2 : Sg, ds = [pyS s1, pyS s2] ∧ sOk nm s2 ∧ sDep s2 ≤ dp - 1) (e_var (d := pyS s1) rfl) (e_cons (PR := fun ds => ∃ s2 : Sg, ds = [pyS s2] ∧ sOk nm s2 ∧ sDep s2 ≤ dp - 1) (again _ rfl rfl rfl) e_nil
        fun d ds ⟨x, q1, q2⟩ q3 => ⟨x, by rw [q1, q3], q2⟩) fun d ds q1 ⟨x, q2, q3⟩ => ⟨x, by rw [q1, q2], q3⟩) fun d ds q1 ⟨x, q2, q3⟩ => ⟨x, by rw [q1, q2], q3⟩) (fun ds ⟨x, q, _⟩ => by rw [q]; simp) fun ds ⟨x, q, o2, dp2⟩ => ⟨.and s1 x, by rw [q]; rfl, ⟨o1, o2⟩, by show max (sDep s1) (sDep x) + 1 ≤ dp; omega⟩)
  · refine sd_ret (e_tup (PA := fun ds => ∃ s2 : Sg, ds = [.str "or", pyS s1, pyS s2] ∧ sOk nm s2 ∧ sDep s2 ≤ dp - 1) (e_cons (PR := fun ds => ∃ s2 : Sg, ds = [.str "or", pyS s1, pyS s2] ∧ sOk nm s2 ∧ sDep s2 ≤ dp - 1) (e_word (k := 1) (d := .str "or") (two _) (n_sub (a := 5) (e_var rfl) (n_c (n := 4)) (by decide)) rfl)
      (e_cons (PR := fun ds => ∃ s2 : Sg, ds = [pyS s1, pyS s2] ∧ sOk nm s2 ∧ sDep s2 ≤ dp - 1) (e_var (d := pyS s1) rfl) (e_cons (PR := fun ds => ∃ s2 : Sg, ds = [pyS s2] ∧ sOk nm s2 ∧ sDep s2 ≤ dp - 1) (again _ rfl rfl rfl) e_nil
        fun d ds ⟨x, q1, q2⟩ q3 => ⟨x, by rw [q1, q3], q2⟩) fun d ds q1 ⟨x, q2, q3⟩ => ⟨x, by rw [q1, q2], q3⟩) fun d ds q1 ⟨x, q2, q3⟩ => ⟨x, by rw [q1, q2], q3⟩) (fun ds ⟨x, q, _⟩ => by rw [q]; simp) fun ds ⟨x, q, o2, dp2⟩ => ⟨.or s1 x, by rw [q]; rfl, ⟨o1, o2⟩, by show max (sDep s1) (sDep x) + 1 ≤ dp; omega⟩)
theorem sd__law_light (nm : List Str) (e1 : E) (hl : nm.length ≤ 8) (o1 : eOk nm e1) (d1 : eDep e1 < 9) : Sd K 99 (t__law_light K) [some purseD, some (pyL nm), some (pyE e1), none, none, none] none N fun d => ∃ s : Sg, d = pyS s ∧ sOk nm s ∧ sDep s ≤ 1 := by
  refine sd_set (e_callr nm (e_consd (e_var rfl) (e_consd (e_var rfl) e_nil)) hl) (by decide) fun d ⟨e2, hd, o2, dp2⟩ => ?_
  subst hd
  have d2 : eDep e2 < 9 := by omega
  refine sd_set (e_next (m := 5) (e_var rfl) (n_c (n := 5)) (by decide) (by decide)) (by decide) fun d ⟨k, hd, hk⟩ => ?_
  subst hd
  refine sd_setd (d := .list [pyS (.inn e1 e2), pyS (.inn e2 e1), pyS (.some e1), pyS (.no e1), pyS (.least k e1), pyS (.most k e1)]) (e_lstd (e_consd (e_tupd (e_consd e_str (e_consd (e_var rfl) (e_consd (e_var rfl) e_nil))) (by simp)) (e_consd (e_tupd (e_consd e_str (e_consd (e_var rfl) (e_consd (e_var rfl) e_nil))) (by simp)) (e_consd (e_tupd (e_consd e_str (e_consd (e_var rfl) e_nil)) (by simp)) (e_consd (e_tupd (e_consd e_str (e_consd (e_var rfl) e_nil)) (by simp)) (e_consd (e_tupd (e_consd e_str (e_consd (e_var rfl) (e_consd (e_var rfl) e_nil))) (by simp)) (e_consd (e_tupd (e_consd e_str (e_consd (e_var rfl) (e_consd (e_var rfl) e_nil))) (by simp)) e_nil)))))) (by simp)) (by decide) ?_
  refine sd_setd (d := .list ([pyS (.inn e1 e2), pyS (.inn e2 e1), pyS (.some e1), pyS (.no e1), pyS (.least k e1), pyS (.most k e1)] ++ [pyS (.eachleast k e1), pyS (.eachmost k e1), pyS (.equal e1 e2), pyS (.not (.inn e1 e2))])) (e_cat (e_var rfl) (e_lstd (e_consd (e_tupd (e_consd e_str (e_consd (e_var rfl) (e_consd (e_var rfl) e_nil))) (by simp)) (e_consd (e_tupd (e_consd e_str (e_consd (e_var rfl) (e_consd (e_var rfl) e_nil))) (by simp)) (e_consd (e_tupd (e_consd e_str (e_consd (e_var rfl) (e_consd (e_var rfl) e_nil))) (by simp)) (e_consd (e_tupd (e_consd e_str (e_consd (e_tupd (e_consd e_str (e_consd (e_var rfl) (e_consd (e_var rfl) e_nil))) (by simp)) e_nil)) (by simp)) e_nil)))) (by simp)) (by simp)) (by decide) ?_
  refine sd_ret ((e_pick (e_var rfl) (e_next (m := 10) (e_var rfl) (n_c (n := 10)) (by decide) (by decide))).weak fun d hd => ?_)
  simp only [List.cons_append, List.nil_append, List.mem_cons, List.not_mem_nil, or_false] at hd
  rcases hd with rfl | rfl | rfl | rfl | rfl | rfl | rfl | rfl | rfl | rfl
  · exact ⟨_, rfl, ok2 o1 d1 o2 d2, Nat.zero_le _⟩
  · exact ⟨_, rfl, ok2 o2 d2 o1 d1, Nat.zero_le _⟩
  · exact ⟨_, rfl, ok1 o1 d1, Nat.zero_le _⟩
  · exact ⟨_, rfl, ok1 o1 d1, Nat.zero_le _⟩
  · exact ⟨_, rfl, ok1 o1 d1, Nat.zero_le _⟩
  · exact ⟨_, rfl, ok1 o1 d1, Nat.zero_le _⟩
  · exact ⟨_, rfl, ok1 o1 d1, Nat.zero_le _⟩
  · exact ⟨_, rfl, ok1 o1 d1, Nat.zero_le _⟩
  · exact ⟨_, rfl, ok2 o1 d1 o2 d2, Nat.zero_le _⟩
  · exact ⟨.not (.inn e1 e2), rfl, ok2 o1 d1 o2 d2, Nat.le_refl _⟩
end
end Wf


set_option maxHeartbeats 1000000
/-! The script's cells, the purse, the words and the worlds drawn. -/
namespace Wf
open PySem PySem.Spec PyProof.Rows L2
section
variable {K : PySem.W.Frag} {N : NP} {es : Env} {te ta tb tc : TE} {tA : TA}
theorem sd__law_cell (ns : List Int) (k : Nat) (hk : k ≤ 100) : Sd K 99 (t__law_cell K) [some (pyR ns), some (nI k)] none N fun d => ∃ x : Int, d = .int x :=
  sd_ret (e_sump (e_slScr (e_var rfl) (o_some (e_var rfl)) (o_some (e_add (i := (k : Int)) (j := 1) (e_var rfl) e_int))))
theorem sd__law_purse (ns : List Int) (k : Nat) (hk : k ≤ 100) : Sd K 99 (t__law_purse K) [some (pyR ns), some (nI k), none] none N fun d => d = purseD := by
  refine sd_set (e_callr (ns, k) (e_consd (e_var rfl) (e_consd (e_var rfl) e_nil)) hk) (by decide) fun d ⟨x, hd⟩ => ?_
  subst hd
  refine sd_whenp (B := fun _ => True) (t_test (P := fun d => ∃ b, d = .bool b) (e_op (Pa := fun d => ∃ i : Int, d = .int i) (Pb := fun d => d = .int 1) (e_op (Pa := fun d => ∃ i : Int, d = .int i) (Pb := fun d => d = .int 2) (e_calld (ns, 0) (e_consd (e_var rfl) (e_consd (n_c (n := 0)) e_nil)) (Nat.zero_le _) fun d h => h) e_int fun x y ⟨i, hi⟩ hy => ?_) e_int fun x y ⟨i, hi⟩ hy => ?_) fun d ⟨b, hb⟩ => ⟨b, hb, trivial⟩) (fun _ => ?_) fun _ => ?_
  · subst hi; subst hy
    exact r_I (by decide) (fun _ => .int _) ⟨_, rfl⟩
  · subst hi; subst hy
    intro vx vy F H s hx hy Q q
    rw [hx.int_, hy.int_]
    exact ⟨rfl, q.now s (.bl _) ⟨_, rfl⟩⟩
  · refine sd_retd (e_pur (x := x.fdiv (if k = 0 then 2 else 1)) (k := 1) (y := 60) (e_consd (e_fdv (i := x) (e_var rfl) ?_ ?_) (e_consd e_int (e_consd e_int e_nil))) (.inl rfl)) rfl
    · have hc : Ed K (tCB rInt1 (tCons (tOp rEq (tVar 1) (tC (.int 0))) tNil)) [some (pyR ns), some (nI k), some (.int x)] (.int (if k = 0 then 1 else 0)) := (e_intB (e_eqI (i := (k : Int)) (j := 0) (e_var rfl) e_int)).is (by
        by_cases h : k = 0
        · subst h; rfl
        · rw [if_neg h, if_neg]
          rw [decide_eq_true_iff]; omega)
      refine e_ixL (ds := [.int 1, .int 2]) (i := (if k = 0 then 1 else 0)) (e_lstd (e_consd e_int (e_consd e_int e_nil)) (by simp)) hc ?_
      by_cases h : k = 0
      · rw [if_pos h, if_pos h]; rfl
      · rw [if_neg h, if_neg h]; rfl
    · by_cases h : k = 0
      · rw [if_pos h]; exact ⟨by decide, by decide⟩
      · rw [if_neg h]; exact ⟨by decide, by decide⟩
  · refine sd_retd (e_pur (x := x.fmod 1000000093 + 5) (k := 0) (y := 900) (e_consd (e_add (e_mod (i := x) (e_var rfl) e_int (by decide)) e_int) (e_consd e_int (e_consd e_int e_nil))) (.inr ?_)) rfl
    have h1 := Int.fmod_nonneg_of_pos x (b := 1000000093) (by decide)
    have h2 := Int.fmod_lt_of_pos x (b := 1000000093) (by decide)
    omega
/-! ### a draw -/
/-- an int told, the heap as it was -/
def RI (te : TE) (σ : L2.St) (H : Hp) (i : Int) : Prop := ∀ Q : VK, Q (.int i) H → te σ H Q
section
variable {σ : L2.St} {H : Hp} {i j : Int} {C : Int → Int → Prop} {f : Int → Int → Int}
theorem ri_c : RI (tC (.int i)) σ H i := fun Q q => q
theorem ri_v {k : Nat} (h : σ[k]? = some (some (.int i))) : RI (tVar k) σ H i := fun Q q => ⟨_, h, q⟩
theorem ri_ix {p : Addr} {xs : List V} (h0 : σ[0]? = some (some (.ref p))) (h : H p = some (.lst xs)) (e : L2.atI xs j = some (.int i)) : RI (tOp (rIxL K) (tVar 0) (tC (.int j))) σ H i := fun Q q => ⟨_, h0, p, xs, j, _, rfl, rfl, SqL.of h, e, q⟩
theorem ri_0 (ha : RI ta σ H i) (hb : RI tb σ H j) : RI (tOp (rI0 fun i j => .int (f i j)) ta tb) σ H (f i j) := fun Q q => ha _ (hb _ ⟨i, j, rfl, rfl, q⟩)
theorem ri_I (ha : RI ta σ H i) (hb : RI tb σ H j) (c : C i j) : RI (tOp (rI C fun i j => .int (f i j)) ta tb) σ H (f i j) := fun Q q => ha _ (hb _ ⟨i, j, rfl, rfl, c, q⟩)
theorem ri_if {b : Bool} {t u : TS} {D : Ends} (h1 : b = true → t D σ H) (h2 : b = false → u D σ H) : if b = true then t D σ H else u D σ H := by
  cases b with
  | true => exact h1 rfl
  | false => exact h2 rfl
/-- p[k] = e -/
theorem ri_set {p : Addr} {xs ys : List V} {k : Nat} {D : Ends} (ha : RI ta σ H i) (h0 : σ[0]? = some (some (.ref p))) (h : H p = some (.lst xs)) (hk : k < xs.length) (e : xs.set k (.int i) = ys) (q : D.nx σ (upd H p (.lst ys))) : tAsg ta (gSub (tVar 0) (tC (.int (k : Int))) rSetL) D σ H :=
  ha _ ⟨_, h0, p, xs, (k : Int), k, rfl, rfl, h, ixN_nat hk, by rw [e]; exact q⟩
end
theorem upd_back {H : Hp} {p : Addr} {o u : HO} (h : H p = some o) : upd (upd H p u) p o = H := by
  rw [upd_upd]
  funext b
  by_cases e : b = p
  · subst e; rw [upd_same, h]
  · rw [upd_ne e]
theorem sd__law_next (m : Nat) (h1 : 1 ≤ m) (hm : m ≤ 100000000) : Sd K 99 (t__law_next K) [some purseD, some (nI m), none, none] none N fun d => ∃ r : Nat, d = nI r ∧ r < m := fun F0 H0 σ F H D x E O kn kr => by
  obtain ⟨v0, s0, d0⟩ := E.at_ 0 purseD rfl
  obtain ⟨p, rfl, hp⟩ := d0.purse_
  obtain ⟨v1, s1, d1⟩ := E.at_ 1 (nI m) rfl
  have := d1.int_
  subst this
  have hH := x.s _ _ hp
  have hl : σ.length = 4 := E.len
  refine ⟨p, s0, hH, fun a k y ok => ?_⟩
  have fin : ∀ (r : Int) (x' k' y' : Int) (H' : Hp), H' = upd H p (.lst [.int x', .int k', .int y']) → 0 ≤ r → r < m → pOk x' k' →
      (∃ x' k' y', H' p = some (.lst [.int x', .int k', .int y']) ∧ pOk x' k' ∧ D.rt (.int r) (upd H' p (.ext (pF p)))) := by
    intro r x' k' y' H' e h0 hr ok'
    subst e
    refine ⟨x', k', y', upd_same, ok', ?_⟩
    rw [upd_back hH]
    exact kr (.int r) F H (.int r) x (.int r) ⟨r.toNat, by show PyData.int r = PyData.int (r.toNat : Int); rw [Int.toNat_of_nonneg h0], by omega⟩
  -- the count goes down
  refine ri_set (i := y - 1) (k := 2) (ys := [.int a, .int k, .int (y - 1)]) (ri_0 (f := fun i j => i - j) (ri_ix s0 upd_same rfl) ri_c) s0 upd_same (by simp) rfl ?_
  rw [upd_upd]
  refine (ri_ix (i := y - 1) s0 upd_same rfl) _ ⟨y - 1, 0, rfl, rfl, _, rfl, ?_⟩
  refine ri_if (fun _ => fin 0 a k (y - 1) _ rfl (by decide) (by omega) ok) fun hy => ?_
  refine (ri_ix (i := k) s0 upd_same rfl) _ ⟨rfl, _, rfl, ?_⟩
  refine ri_if (fun hk => ?_) fun hk => ?_
  · have hk : k = 1 := by
      have := of_decide_eq_true hk
      injection this
    subst hk
    refine (ri_I (i := a) (j := (m : Int)) (f := fun i j => i.fmod j) (C := fun _ j => j ≠ 0) (ri_ix s0 upd_same rfl) (ri_v s1) (by omega)) _ ?_
    refine ri_set (i := a.fdiv m) (k := 0) (ys := [.int (a.fdiv m), .int 1, .int (y - 1)]) (ri_I (f := fun i j => i.fdiv j) (C := CDivN) (ri_ix (σ := σ.set 3 _) (by rw [List.getElem?_set_ne (by decide)]; exact s0) upd_same rfl) (ri_v (by rw [List.getElem?_set_ne (by decide)]; exact s1)) ⟨by omega, by omega⟩) (by rw [List.getElem?_set_ne (by decide)]; exact s0) upd_same (by simp) rfl ?_
    rw [upd_upd]
    refine ⟨_, List.getElem?_set_self (by omega), ?_⟩
    exact fin (a.fmod m) (a.fdiv m) 1 (y - 1) _ rfl (Int.fmod_nonneg_of_pos _ (by omega)) (Int.fmod_lt_of_pos _ (by omega)) (.inl rfl)
  have hk : ¬ k = 1 := fun z => of_decide_eq_false hk (by rw [z])
  have ha := ok.resolve_left hk
  refine ri_set (i := (a * 48817 + 65029 * (y - 1) + 501).fmod 1000000093) (k := 0) (ys := [.int ((a * 48817 + 65029 * (y - 1) + 501).fmod 1000000093), .int k, .int (y - 1)]) (ri_I (f := fun i j => i.fmod j) (C := fun _ j => j ≠ 0) (ri_0 (f := fun i j => i + j) (ri_0 (f := fun i j => i + j) (ri_I (f := fun i j => i * j) (C := CMul) (ri_ix s0 upd_same rfl) ri_c (.inr (by decide))) (ri_I (f := fun i j => i * j) (C := CMul) ri_c (ri_ix s0 upd_same rfl) (.inl (by decide)))) ri_c) ri_c (by decide)) s0 upd_same (by simp) rfl ?_
  rw [upd_upd]
  have b1 := Int.fmod_nonneg_of_pos (a * 48817 + 65029 * (y - 1) + 501) (b := 1000000093) (by decide)
  have b2 := Int.fmod_lt_of_pos (a * 48817 + 65029 * (y - 1) + 501) (b := 1000000093) (by decide)
  generalize (a * 48817 + 65029 * (y - 1) + 501).fmod 1000000093 = z at b1 b2 ⊢
  have b3 : 0 ≤ z.fdiv 2053 := Int.fdiv_nonneg b1 (by decide)
  have b4 : z.fdiv 2053 < 1000000 := by
    rw [Int.fdiv_eq_ediv_of_nonneg _ (by decide)]; omega
  refine (ri_I (f := fun i j => i.fmod j) (C := fun _ j => j ≠ 0) (ri_I (f := fun i j => i * j) (C := CMul) (i := z) (j := z.fdiv 2053 + 613) (ri_ix s0 upd_same rfl) (ri_0 (f := fun i j => i + j) (ri_I (f := fun i j => i.fdiv j) (C := CDivN) (ri_ix s0 upd_same rfl) ri_c ⟨by decide, by decide⟩) ri_c) (.inr ?_)) ri_c (by decide)) _ ?_
  · omega
  have o1 := Int.fmod_nonneg_of_pos (z * (z.fdiv 2053 + 613)) (b := 998244353) (by decide)
  have o2 := Int.fmod_lt_of_pos (z * (z.fdiv 2053 + 613)) (b := 998244353) (by decide)
  generalize (z * (z.fdiv 2053 + 613)).fmod 998244353 = u at o1 o2 ⊢
  have sv : (σ.set 2 (some (V.int u)))[2]? = some (some (.int u)) := List.getElem?_set_self (by omega)
  refine (ri_I (σ := σ.set 2 (some (V.int u))) (f := fun i j => i.fmod j) (C := fun _ j => j ≠ 0) (j := (m : Int)) (ri_I (f := fun i j => i.fmod j) (C := fun _ j => j ≠ 0) (ri_0 (f := fun i j => i + j) (ri_I (f := fun i j => i * j) (C := CMul) (ri_v sv) (ri_v sv) (.inl ?_)) (ri_ix (by rw [List.getElem?_set_ne (by decide)]; exact s0) upd_same rfl)) ri_c (by decide)) (ri_v (by rw [List.getElem?_set_ne (by decide)]; exact s1)) (by omega)) _ ?_
  · omega
  exact fin _ z k (y - 1) _ rfl (Int.fmod_nonneg_of_pos _ (by omega)) (Int.fmod_lt_of_pos _ (by omega)) (.inr ⟨b1, by omega⟩)
end
end Wf


set_option maxHeartbeats 1000000
/-! The names, the words and the worlds drawn. -/
namespace Wf
open PySem PySem.Spec PyProof.Rows L2
section
variable {K : PySem.W.Frag} {N : NP} {es : Env} {te ta tb tc : TE} {tA : TA}
/-! ### worlds -/
theorem nats_of {b : Nat} : ∀ {ds : List PyData}, (∀ (k : Nat) x, ds[k]? = some x → ∃ r : Nat, x = nI r ∧ r < b) → ∃ ns : List Nat, ds = ns.map nI ∧ ∀ n, n ∈ ns → n < b
  | [], _ => ⟨[], rfl, fun _ h => nomatch h⟩
  | d :: ds, h => by
    obtain ⟨r, hr, hb⟩ := h 0 d rfl
    obtain ⟨ns, hns, hnb⟩ := nats_of (ds := ds) fun k x hk => h (k + 1) x hk
    refine ⟨r :: ns, by rw [hr, hns]; rfl, fun n hn => ?_⟩
    rcases List.mem_cons.mp hn with rfl | hn
    · exact hb
    · exact hnb n hn
theorem strs_of {ds : List PyData} (h : ∀ (k : Nat) x, ds[k]? = some x → ∃ z : Str, x = .str z) : ∃ zs : List Str, ds = zs.map .str := by
  induction ds with
  | nil => exact ⟨[], rfl⟩
  | cons d ds ih =>
    obtain ⟨z, hz⟩ := h 0 d rfl
    obtain ⟨zs, hzs⟩ := ih fun k x hk => h (k + 1) x hk
    exact ⟨z :: zs, by rw [hz, hzs]; rfl⟩
theorem pow16 {n : Nat} (hn : n ≤ 16) : 2 ^ n ≤ 100000000 := Nat.le_trans (Nat.pow_le_pow_right (by decide) hn) (by decide)
theorem band_lt {a b c : Nat} (h : a < c) : a &&& b < c := Nat.lt_of_le_of_lt Nat.and_le_left h
theorem e_bit {n : Nat} (h : Ed K tb es (nI n)) (hn : n ≤ 16) : Ed K (tOp qShl (tC (.int 1)) tb) es (nI (2 ^ n)) := (n_shl (a := 1) (n_c (n := 1)) h (by decide) (by omega)).is (by rw [pow_one_shl])
theorem sd__law_world (kn tn : List Str) (n : Nat) (h1 : kn.length ≤ 4) (h2 : tn.length ≤ 4) (hn : n ≤ 4) :
    Sd K 4 (t__law_world K) [some (pyQ kn tn), some (nI n), some purseD, none, none, none, none] none N fun d => ∃ w : Wd, d = pyW w ∧ WOk kn tn w ∧ w.n = n := by
  have h16 := sq16 hn
  refine sd_set (e_lcTp (xs := kn.map .str) (PI := fun _ d => ∃ r : Nat, d = nI r ∧ r < 2 ^ n) ((e_t0 (e_var rfl)).weak fun d e => .inr ⟨kn, e, rfl⟩) (by rw [List.length_map]; omega) (by decide) fun k x _ => e_next (m := 2 ^ n) (e_var rfl) (e_bit (e_var rfl) (by omega)) (Nat.one_le_two_pow) (pow16 (by omega))) (by decide) fun d ⟨ds, hd, hl, hx⟩ => ?_
  subst hd
  obtain ⟨ks, rfl, hk⟩ := nats_of hx
  rw [List.length_map, List.length_map] at hl
  refine sd_seq (sd_own (ef_lst e_nil fun ds e => by rw [e]; simp) (by simp) fun ds e => ?_)
  subst e
  refine sd_seq (sd_forT (ds := tn.map .str) ((e_t1 (e_var rfl)).weak fun d e => .inr ⟨tn, e, rfl⟩) (by decide) (fun k es o => ∃ x y, es = [some (pyQ kn tn), some (nI n), some purseD, some (.list (ks.map nI)), none, x, y] ∧ ∃ ts : List Nat, o = some (ts.map nI) ∧ ts.length = k ∧ ∀ t, t ∈ ts → t < 2 ^ (n * n)) ⟨none, none, rfl, [], rfl, rfl, fun _ h => nomatch h⟩ ?_ ?_)
  · rintro k d es1 o1 hd ⟨x, y, rfl, ts, rfl, hts, htb⟩
    have hkl : k < tn.length := by
      have := (List.getElem?_eq_some_iff.mp hd).1
      rw [List.length_map] at this; exact this
    have nn : ∀ es : Env, es[1]? = some (some (nI n)) → Ed K (tOp qShl (tC (.int 1)) (tOp qMul (tVar 1) (tVar 1))) es (nI (2 ^ (n * n))) := fun es h => e_bit (n_mul (a := n) (b := n) (e_var h) (e_var h) (by omega)) h16
    refine sd_set (e_next (m := 2 ^ (n * n)) (e_var rfl) (nn _ rfl) (Nat.one_le_two_pow) (pow16 h16)) (by decide) fun d6 ⟨t, ht, htl⟩ => ?_
    subst ht
    have last : ∀ t : Nat, t < 2 ^ (n * n) → ∀ x, Sd K 4 (tDrop (tBM K "list" rAppend (tVar 4) (tCons (tVar 6) tNil))) [some (pyQ kn tn), some (nI n), some purseD, some (.list (ks.map nI)), none, x, some (nI t)] (some (ts.map nI)) (fun es o => ∃ x y, es = [some (pyQ kn tn), some (nI n), some purseD, some (.list (ks.map nI)), none, x, y] ∧ ∃ ts : List Nat, o = some (ts.map nI) ∧ ts.length = k + 1 ∧ ∀ t, t ∈ ts → t < 2 ^ (n * n)) (fun d => ∃ w : Wd, d = pyW w ∧ WOk kn tn w ∧ w.n = n) := fun t htl x =>
      sd_app (e_var rfl) (by rw [List.length_map]; omega) fun d e => by
        subst e
        refine ⟨x, some (nI t), rfl, ts ++ [t], by rw [List.map_append]; rfl, by rw [List.length_append, hts]; rfl, fun u hu => ?_⟩
        rcases List.mem_append.mp hu with hu | hu
        · exact htb u hu
        · rw [List.mem_singleton.mp hu]; exact htl
    refine sd_whenp (B := fun _ => True) (t_test (P := fun d => ∃ b, d = .bool b) (e_op (Pb := fun d => d = nI 1) (e_next (m := 3) (e_var rfl) (n_c (n := 3)) (by decide) (by decide)) (n_c (n := 1)) fun x y ⟨r, hr, _⟩ hy => ?_) fun d ⟨b, hb⟩ => ⟨b, hb, trivial⟩) (fun _ => ?_) fun _ => ?_
    · subst hr; subst hy
      intro vx vy F H s hx hy Q q
      rw [hx.int_, hy.int_]
      exact ⟨rfl, q.now s (.bl _) ⟨_, rfl⟩⟩
    · refine sd_asg (P := fun d => ∃ u : Nat, d = nI u ∧ u < 2 ^ (n * n)) (e_op (Pa := fun d => d = nI t) (e_var rfl) (e_next (m := 2 ^ (n * n)) (e_var rfl) (nn _ rfl) (Nat.one_le_two_pow) (pow16 h16)) fun x y hx ⟨r, hr, _⟩ => ?_) (by decide) fun d ⟨u, hu, hul⟩ => ?_
      · subst hx; subst hr
        exact r_I0 (fun F => .int _) ⟨t &&& r, congrArg PyData.int (PySem.W.os_band t r), band_lt htl⟩
      · subst hu
        exact last u hul _
    · exact last t htl _
  · rintro es1 o1 ⟨x, y, rfl, ts, rfl, hts, htb⟩
    rw [List.length_map] at hts
    refine sd_freeze (sd_retd (e_tupd (e_consd (e_var rfl) (e_consd (e_tupOf (e_var rfl)) (e_consd (e_tupOf (e_var rfl)) e_nil))) (by simp)) ⟨⟨n, ks, ts⟩, rfl, ⟨hn, hl, hts, hk, htb⟩, rfl⟩)
/-! ### words -/
theorem e_cutT {xs : List Str} {k : Nat} (h : Ed K te es (.list (xs.map .str))) (hb : Ed K tb es (nI k)) : Ed K (tSl (rSlL K) te tNoPart (tPart tb)) es (.list ((xs.take k).map .str)) :=
  (e_slL h o_none (o_some hb)).is (by rw [cut_take, List.map_take])
theorem e_cutD {xs : List Str} {k : Nat} (h : Ed K te es (.list (xs.map .str))) (hb : Ed K tb es (nI k)) : Ed K (tSl (rSlL K) te (tPart tb) tNoPart) es (.list ((xs.drop k).map .str)) :=
  (e_slL h (o_some hb) o_none).is (by rw [cut_drop, List.map_drop])
theorem e_wordsOf {xs : List Str} (h : Ed K te es (.list (xs.map .str))) (hz : xs.length ≤ 4) : Ep K (tCB (rTupF K) (tCons (tCB (rSortedS K) (tCons te tNil)) tNil)) es fun d => ∃ ys : List Str, d = pyN ys ∧ ys.length ≤ 4 :=
  e_namesOf ((e_sortS h (by omega)).weak fun d ⟨ys, e, hl⟩ => ⟨ys, e, by omega⟩)
theorem sd__law_words (ns : List Int) : Sd K 99 (t__law_words K) [some (pyR ns), none, none, none, none, none] none N fun d => ∃ kn tn : List Str, d = pyQ kn tn ∧ kn.length ≤ 4 ∧ tn.length ≤ 4 := by
  refine sd_setd (e_calld (ns, 0) (e_consd (e_var rfl) (e_consd (n_c (n := 0)) e_nil)) (Nat.zero_le _) fun d h => h) (by decide) ?_
  refine sd_set (e_next (m := 5) (e_var rfl) (n_c (n := 5)) (by decide) (by decide)) (by decide) fun d ⟨a, hd, ha⟩ => ?_
  subst hd
  refine sd_set (e_next (m := 5) (e_var rfl) (n_c (n := 5)) (by decide) (by decide)) (by decide) fun d ⟨b, hd, hb⟩ => ?_
  subst hd
  refine sd_set (e_next (m := 100000000) (e_var rfl) ((e_pow (i := 10) (j := 8) e_int e_int ⟨by decide, by decide, by decide⟩).is rfl) (by decide) (by decide)) (by decide) fun d ⟨c, hd, hc⟩ => ?_
  subst hd
  refine sd_set (e_callr (c / 2, a + b) (e_consd (n_fdv (a := c) (b := 2) (e_var rfl) (n_c (n := 2)) (by decide) (by decide)) (e_consd (n_add (e_var rfl) (e_var rfl)) e_nil)) ⟨by show c / 2 ≤ 100000000; omega, by show a + b ≤ 8; omega⟩) (by decide) fun d ⟨xs, hd, hl⟩ => ?_
  subst hd
  have hl : xs.length = a + b := hl
  have fin : ∀ xs : List Str, xs.length = a + b → Sd K 99 (tSeq (tIfS (tTest (tOp rEq (tOp qMod (tCall (sp__law_cell K) [] E0 (tCons (tVar 0) (tCons (tC (.int 0)) tNil))) (tC (.int 2))) (tC (.int 1)))) (tAsg (tCall (sp__law_any_names K) [] E0 (tCons (tVar 0) (tCons (tVar 2) (tCons (tVar 3) tNil)))) (gName 5)) tNext)
      (tRet (tTup (tCons (tCB (rTupF K) (tCons (tCB (rSortedS K) (tCons (tSl (rSlL K) (tVar 5) tNoPart (tPart (tVar 2))) tNil)) tNil)) (tCons (tCB (rTupF K) (tCons (tCB (rSortedS K) (tCons (tSl (rSlL K) (tVar 5) (tPart (tVar 2)) tNoPart) tNil)) tNil)) tNil)))))
      [some (pyR ns), some purseD, some (nI a), some (nI b), some (nI c), some (.list (xs.map .str))] none N fun d => ∃ kn tn : List Str, d = pyQ kn tn ∧ kn.length ≤ 4 ∧ tn.length ≤ 4 := by
    intro xs hl
    have ret : ∀ xs : List Str, xs.length = a + b → Sd K 99 (tRet (tTup (tCons (tCB (rTupF K) (tCons (tCB (rSortedS K) (tCons (tSl (rSlL K) (tVar 5) tNoPart (tPart (tVar 2))) tNil)) tNil)) (tCons (tCB (rTupF K) (tCons (tCB (rSortedS K) (tCons (tSl (rSlL K) (tVar 5) (tPart (tVar 2)) tNoPart) tNil)) tNil)) tNil))))
        [some (pyR ns), some purseD, some (nI a), some (nI b), some (nI c), some (.list (xs.map .str))] none N fun d => ∃ kn tn : List Str, d = pyQ kn tn ∧ kn.length ≤ 4 ∧ tn.length ≤ 4 := fun xs hl =>
      sd_ret (e_tup (PA := fun ds => ∃ kn tn : List Str, ds = [pyN kn, pyN tn] ∧ kn.length ≤ 4 ∧ tn.length ≤ 4) (e_cons (PA := fun ds => ∃ tn : List Str, ds = [pyN tn] ∧ tn.length ≤ 4) (e_wordsOf (e_cutT (e_var rfl) (e_var rfl)) (by rw [List.length_take]; omega)) (e_cons (e_wordsOf (e_cutD (e_var rfl) (e_var rfl)) (by rw [List.length_drop]; omega)) e_nil
        fun d ds ⟨y, q1, q2⟩ q3 => ⟨y, by rw [q1, q3], q2⟩) fun d ds ⟨y, q1, q2⟩ ⟨z, q3, q4⟩ => ⟨y, z, by rw [q1, q3], q2, q4⟩) (fun ds ⟨y, z, q, _⟩ => by rw [q]; simp) fun ds ⟨y, z, q, q1, q2⟩ => ⟨y, z, by rw [q], q1, q2⟩)
    refine sd_whenp (B := fun _ => True) (t_test (P := fun d => ∃ b, d = .bool b) (e_op (Pa := fun d => ∃ i : Int, d = .int i) (Pb := fun d => d = .int 1) (e_op (Pa := fun d => ∃ i : Int, d = .int i) (Pb := fun d => d = .int 2) (e_calld (ns, 0) (e_consd (e_var rfl) (e_consd (n_c (n := 0)) e_nil)) (Nat.zero_le _) fun d h => h) e_int fun x y ⟨i, hi⟩ hy => ?_) e_int fun x y ⟨i, hi⟩ hy => ?_) fun d ⟨b, hb⟩ => ⟨b, hb, trivial⟩) (fun _ => ?_) fun _ => ?_
    · subst hi; subst hy
      exact r_I (by decide) (fun _ => .int _) ⟨_, rfl⟩
    · subst hi; subst hy
      intro vx vy F H s hx hy Q q
      rw [hx.int_, hy.int_]
      exact ⟨rfl, q.now s (.bl _) ⟨_, rfl⟩⟩
    · refine sd_asg (e_callr (ns, a, b) (e_consd (e_var rfl) (e_consd (e_var rfl) (e_consd (e_var rfl) e_nil))) ⟨by show a ≤ 4; omega, by show b ≤ 4; omega⟩) (by decide) fun d ⟨ys, hd, hy⟩ => ?_
      subst hd
      exact ret ys hy
    · exact ret xs hl
  refine sd_when (b := decide (c % 2 = 1)) (t_testd (n_eq (n_mod (e_var rfl) (n_c (n := 2)) (by decide)) (n_c (n := 1)))) (fun _ => ?_) fun _ => ?_
  · refine sd_asg (e_rev (e_var rfl)) (by decide) fun d hd => ?_
    subst hd
    refine (show (xs.map PyData.str).reverse = xs.reverse.map PyData.str from List.map_reverse.symm) ▸ ?_
    exact fin xs.reverse (by rw [List.length_reverse]; exact hl)
  · exact fin xs hl
end
end Wf


set_option maxHeartbeats 1000000
/-! The names drawn. -/
namespace Wf
open PySem PySem.Spec PyProof.Rows L2
section
variable {K : PySem.W.Frag} {N : NP} {es : Env} {te ta tb tc : TE} {tA : TA}
/-! ### some text, no longer than told -/
abbrev isS (n : Nat) : PyData → Prop := fun d => ∃ z : Str, d = .str z ∧ z.length ≤ n
theorem cutS_le (z : Str) (lo hi : Option Int) : (cutS z lo hi).length ≤ z.length := by
  show ((z.cps.toList.drop _).take _).toArray.size ≤ z.cps.size
  rw [List.size_toArray, List.length_take, List.length_drop, Array.length_toList]
  omega
theorem s_str {z : Str} {n : Nat} (h : z.length ≤ n) : Ep K (tC (.str z)) es (isS n) := e_str.p ⟨z, rfl, h⟩
theorem s_add {a b : Nat} (ha : Ep K ta es (isS a)) (hb : Ep K tb es (isS b)) (hz : a + b ≤ 1000) : Ep K (tOp rAddS' ta tb) es (isS (a + b)) :=
  e_op ha hb fun x y ⟨u, hu, lu⟩ ⟨w, hw, lw⟩ => by
    subst hu; subst hw
    intro vx vy F H s hx hy Q q
    have hl : (u ++ w).length = u.length + w.length := PySem.Str.length_append u w
    exact ⟨u, w, hx.str_, hy.str_, Nat.le_of_lt (small1000 (by omega)), q.now s (.str _) ⟨_, rfl, by omega⟩⟩
theorem s_ix {z : Str} {r : Nat} (ha : Ed K ta es (.str z)) (hb : Ed K tb es (nI r)) (hr : r < z.cps.size) (hz : z.length ≤ 1000) : Ep K (tOp rIxS ta tb) es fun d => ∃ c, d = .str ⟨#[c]⟩ :=
  e_opd ha hb (r_ixS (c := z.cps.toList[r]'(by rw [Array.length_toList]; exact hr)) hz (L2.atI_nat (List.getElem?_eq_getElem _)) ⟨_, rfl⟩)
theorem s_one (h : Ep K te es fun d => ∃ c, d = .str ⟨#[c]⟩) : Ep K te es (isS 1) := h.weak fun d ⟨c, e⟩ => ⟨⟨#[c]⟩, e, Nat.le_refl _⟩
theorem s_mul {n : Nat} (ha : Ep K ta es fun d => ∃ c, d = .str ⟨#[c]⟩) (hb : Ed K tb es (nI n)) (h1 : 2 ≤ n) (h2 : n ≤ 100) : Ep K (tOp rMulS ta tb) es (isS n) :=
  e_op ha hb fun x y ⟨c, hc⟩ hy => by
    subst hc; subst hy
    intro vx vy F H s hx hy Q q
    exact ⟨⟨#[c]⟩, n, hx.str_, hy.int_, rfl, by omega, by omega, fun S hS => q.now s (.str _) ⟨S, rfl, by rw [hS]; omega⟩⟩
theorem s_sl {z : Str} {tl th : TO} {lo hi : Option Int} (hx : Ed K te es (.str z)) (hl : EdO K tl es lo) (hh : EdO K th es hi) {n : Nat} (hz : z.length ≤ n) (hn : n ≤ 1000) : Ep K (tSl rSlS te tl th) es (isS n) :=
  (e_slS hx hl hh (by omega)).p ⟨_, rfl, Nat.le_trans (cutS_le _ _ _) hz⟩
theorem s_slp {n : Nat} {tl th : TO} {lo hi : Option Int} (hx : Ep K te es (isS n)) (hl : EdO K tl es lo) (hh : EdO K th es hi) (hn : n ≤ 1000) : Ep K (tSl rSlS te tl th) es (isS n) := fun σ F H s E Q q =>
  hx σ F H s E _ fun v F1 H1 x e1 hd ⟨z, ez, lz⟩ => by
    subst ez
    refine hl σ F1 H1 e1.s (E.up e1.f) _ fun o F2 H2 e2 p2 => ?_
    subst p2
    refine hh σ F2 H2 e2.s ((E.up e1.f).up e2.f) _ fun o' F3 H3 e3 p3 => ?_
    subst p3
    exact ⟨z, hd.str_, Nat.le_of_lt (small1000 (by omega)), q _ F3 H3 _ ((e1.trans e2).trans e3) (.str _) ⟨_, rfl, Nat.le_trans (cutS_le _ _ _) lz⟩⟩
theorem e_family {n m : Nat} {i : Nat} {vs : List Nat} (h : Ed K ta es (nI m)) (hm : m ≤ 1000) (hi : i ∈ vs) (he : ∀ k : Nat, k < m → Ep K te ((wipeE es vs).set i (some (nI k))) (isS n)) :
    Ep K (tLc (iRng1 (tCons ta tNil)) (gName i) tYes te vs) es fun d => ∃ xs : List Str, d = .list (xs.map .str) ∧ xs.length = m := by
  refine (e_lcRp (n := (m : Int)) (PI := fun _ => isS n) (e_consd h e_nil) (by omega) hi fun k hk => he k (by omega)).weak ?_
  rintro d ⟨ds, rfl, hl, hx⟩
  obtain ⟨zs, rfl⟩ := strs_of fun k x hk => (hx k x hk).imp fun z hz => hz.1
  rw [List.length_map, Int.toNat_natCast] at hl
  exact ⟨zs, rfl, hl⟩
abbrev letters : Str := "abcdefghijklmnopqrstuvwxyz"
theorem letters_26 : letters.cps.size = 26 := by decide
theorem letters_l : letters.length ≤ 1000 := by decide
theorem sd__law_family (c m : Nat) (hc : c ≤ 100000000) (hm : m ≤ 8) : Sd K 99 (t__law_family K) [some (nI c), some (nI m), none, none, none, none, none, none] none N fun d => ∃ xs : List Str, d = .list (xs.map .str) ∧ xs.length = m := by
  refine sd_setd (d := .str letters) e_str (by decide) ?_
  refine sd_setd (d := nI (c / 4 % 26)) (n_mod (n_fdv (e_var rfl) (n_c (n := 4)) (by decide) (by decide)) (n_c (n := 26)) (by decide)) (by decide) ?_
  have hf : c / 4 % 26 < 26 := Nat.mod_lt _ (by decide)
  generalize c / 4 % 26 = f at hf
  have let_ : ∀ {tb : TE} {es : Env} {r : Nat}, es[2]? = some (some (.str letters)) → Ed K tb es (nI r) → r < 26 → Ep K (tOp rIxS (tVar 2) tb) es fun d => ∃ c, d = .str ⟨#[c]⟩ := fun h2 hb hr => s_ix (e_var h2) hb (by rw [letters_26]; exact hr) letters_l
  refine sd_when (b := decide (c % 4 = 0)) (t_testd (n_eq (n_mod (e_var rfl) (n_c (n := 4)) (by decide)) (n_c (n := 0)))) (fun _ => ?_) fun _ => ?_
  · refine sd_ret (e_family (n := 1) (e_var rfl) (by omega) (by decide) fun k hk => s_one (let_ rfl (n_mod (n_add (e_var rfl) (n_mul (a := 1 + 2 * (c / 104 % 6)) (b := k) (n_add (n_c (n := 1)) (n_mul (a := 2) (n_c (n := 2)) (n_mod (n_fdv (e_var rfl) (n_c (n := 104)) (by decide) (by decide)) (n_c (n := 6)) (by decide)) (by decide))) (e_var rfl) ?_)) (n_c (n := 26)) (by decide)) (Nat.mod_lt _ (by decide))))
    have : c / 104 % 6 < 6 := Nat.mod_lt _ (by decide)
    omega
  refine sd_when (b := decide (c % 4 = 1)) (t_testd (n_eq (n_mod (e_var rfl) (n_c (n := 4)) (by decide)) (n_c (n := 1)))) (fun _ => ?_) fun _ => ?_
  · exact sd_ret (e_family (n := 8) (e_var rfl) (by omega) (by decide) fun k hk => s_slp (n := 1 + 7) (s_add (s_str (by decide)) (s_mul (let_ rfl (e_var rfl) hf) (n_c (n := 7)) (by decide) (by decide)) (by decide)) o_none (o_some (n_add (a := k) (b := 1) (e_var rfl) (n_c (n := 1)))) (by decide))
  refine sd_when (b := decide (c % 4 = 2)) (t_testd (n_eq (n_mod (e_var rfl) (n_c (n := 4)) (by decide)) (n_c (n := 2)))) (fun _ => ?_) fun _ => ?_
  · refine sd_setd (d := .list ((["nota", "orb", "andy", "inn", "alls", "samey", "nonea", "eachs", "leasts", "mosty", "somes", "noa"] : List Str).map .str)) (e_lstd (e_consd e_str (e_consd e_str (e_consd e_str (e_consd e_str (e_consd e_str (e_consd e_str (e_consd e_str (e_consd e_str (e_consd e_str (e_consd e_str (e_consd e_str (e_consd e_str e_nil)))))))))))) (by simp)) (by decide) ?_
    refine sd_setd (d := .list ((["nota", "orb", "andy", "inn", "alls", "samey", "nonea", "eachs", "leasts", "mosty", "somes", "noa", "kinda", "ties", "says", "i"] : List Str).map .str)) (e_cat (xs := (["nota", "orb", "andy", "inn", "alls", "samey", "nonea", "eachs", "leasts", "mosty", "somes", "noa"] : List Str).map .str) (ys := (["kinda", "ties", "says", "i"] : List Str).map .str) (e_var rfl) (e_lstd (e_consd e_str (e_consd e_str (e_consd e_str (e_consd e_str e_nil)))) (by simp)) (by simp)) (by decide) ?_
    refine sd_ret (e_family (n := 6) (e_var rfl) (by omega) (by decide) fun k hk => (e_pick (e_var rfl) (((n_mod (n_add (e_var rfl) (n_mul (a := 3) (b := k) (n_c (n := 3)) (e_var rfl) (by decide))) (n_c (n := 16)) (by decide)).p (P := fun d => ∃ r : Nat, d = nI r ∧ r < 16) ⟨_, rfl, Nat.mod_lt _ (by decide)⟩))).weak fun d hd => ?_)
    obtain ⟨z, hz, rfl⟩ := List.mem_map.mp hd
    refine ⟨z, rfl, ?_⟩
    have all : ∀ z, z ∈ (["nota", "orb", "andy", "inn", "alls", "samey", "nonea", "eachs", "leasts", "mosty", "somes", "noa", "kinda", "ties", "says", "i"] : List Str) → z.length ≤ 6 := by decide
    exact all z hz
  refine sd_set (s_slp (n := 1 + 6) (s_add (s_str (by decide)) (s_mul (let_ rfl (e_var rfl) hf) (n_c (n := 6)) (by decide) (by decide)) (by decide)) o_none (o_some (n_add (a := 1) (b := c / 104 % 7) (n_c (n := 1)) (n_mod (n_fdv (e_var rfl) (n_c (n := 104)) (by decide) (by decide)) (n_c (n := 7)) (by decide)))) (by decide)) (by decide) fun d ⟨z, hd, hz⟩ => ?_
  subst hd
  refine sd_setd (d := nI (c / 728 % (z.length + 1))) (n_mod (n_fdv (e_var rfl) (n_c (n := 728)) (by decide) (by decide)) (n_add (a := z.length) (b := 1) (e_lenS (e_var rfl) (by omega)) (n_c (n := 1))) (by omega)) (by decide) ?_
  generalize c / 728 % (z.length + 1) = g
  exact sd_ret (e_family (n := 7 + 1 + 7) (e_var rfl) (by omega) (by decide) fun k hk => s_add (s_add (s_sl (e_var rfl) o_none (o_some (e_var (d := nI g) rfl)) hz (by decide)) (s_one (let_ rfl (n_mod (n_add (n_add (e_var rfl) (n_c (n := 1))) (n_mul (a := 3) (b := k) (n_c (n := 3)) (e_var rfl) (by decide))) (n_c (n := 26)) (by decide)) (Nat.mod_lt _ (by decide)))) (by decide)) (s_sl (e_var rfl) (o_some (e_var (d := nI g) rfl)) o_none hz (by decide)) (by decide))
end
end Wf


set_option maxHeartbeats 1000000
/-! Any names; the law. -/
namespace Wf
open PySem PySem.Spec PyProof.Rows L2
section
variable {K : PySem.W.Frag} {N : NP} {es : Env} {te ta tb tc : TE} {tA : TA}
theorem pigeon {α : Type} [DecidableEq α] : ∀ (l m : List α), l.Nodup → (∀ x, x ∈ l → x ∈ m) → l.length ≤ m.length
  | [], _, _, _ => Nat.zero_le _
  | x :: l, m, n, h => by
    have hx := h x List.mem_cons_self
    have n' := List.nodup_cons.mp n
    have ih := pigeon l (m.erase x) n'.2 fun y hy => (List.mem_erase_of_ne (fun e : y = x => n'.1 (by rw [← e]; exact hy))).mpr (h y (List.mem_cons_of_mem _ hy))
    rw [List.length_erase_of_mem hx] at ih
    have := List.length_pos_of_mem hx
    rw [List.length_cons]
    omega
theorem app_inj {u : Str} {c d : Nat} (h : u ++ (⟨#[c]⟩ : Str) = u ++ (⟨#[d]⟩ : Str)) : c = d := by
  have h : (u ++ (⟨#[c]⟩ : Str)).cps = (u ++ (⟨#[d]⟩ : Str)).cps := by rw [h]
  rw [PySem.Str.cps_append, PySem.Str.cps_append] at h
  have h := congrArg Array.toList h
  rw [Array.toList_append, Array.toList_append] at h
  have h := List.append_cancel_left h
  injection h
theorem letters_nodup : letters.cps.toList.Nodup := by decide
theorem some_free (u : Str) (L : List Str) (hL : L.length < 26) : ∃ c, c ∈ letters.cps.toList ∧ u ++ (⟨#[c]⟩ : Str) ∉ L := by
  apply Classical.byContradiction
  intro h
  have all : ∀ x, x ∈ letters.cps.toList.map (fun c => u ++ (⟨#[c]⟩ : Str)) → x ∈ L := by
    intro x hx
    obtain ⟨c, hc, rfl⟩ := List.mem_map.mp hx
    apply Classical.byContradiction
    intro q
    exact h ⟨c, hc, q⟩
  have nd : (letters.cps.toList.map (fun c => u ++ (⟨#[c]⟩ : Str))).Nodup := by
    unfold List.Nodup
    rw [List.pairwise_map]
    exact List.Pairwise.imp (fun hne e => hne (app_inj e)) letters_nodup
  have := pigeon _ _ nd all
  rw [List.length_map, Array.length_toList, letters_26] at this
  omega
theorem sum_ones : ∀ (ys : List Str), (∀ y, y ∈ ys → y.length = 1) → (ys.map (·.length)).sum = ys.length
  | [], _ => rfl
  | y :: r, h => by
    rw [List.map_cons, List.sum_cons, sum_ones r fun z hz => h z (List.mem_cons_of_mem _ hz), h y List.mem_cons_self, List.length_cons]
    omega
theorem e_ones {m : Nat} {i : Nat} {vs : List Nat} (h : Ed K ta es (nI m)) (hm : m ≤ 1000) (hi : i ∈ vs) (he : ∀ k : Nat, k < m → Ep K te ((wipeE es vs).set i (some (nI k))) fun d => ∃ c, d = .str ⟨#[c]⟩) :
    Ep K (tLc (iRng1 (tCons ta tNil)) (gName i) tYes te vs) es fun d => ∃ ys : List Str, d = .list (ys.map .str) ∧ ((∀ y, y ∈ ys → y.length = 1) ∧ ys.length = m) := by
  refine (e_lcRp (n := (m : Int)) (PI := fun _ d => ∃ c, d = .str ⟨#[c]⟩) (e_consd h e_nil) (by omega) hi fun k hk => he k (by omega)).weak ?_
  rintro d ⟨ds, rfl, hl, hx⟩
  obtain ⟨zs, rfl⟩ := strs_of fun k x hk => (hx k x hk).elim fun c hc => ⟨_, hc⟩
  rw [List.length_map, Int.toNat_natCast] at hl
  refine ⟨zs, rfl, fun y hy => ?_, hl⟩
  obtain ⟨k, hk⟩ := List.getElem?_of_mem hy
  obtain ⟨c, hc⟩ := hx k (.str y) (by rw [List.getElem?_map, hk]; rfl)
  injection hc with hc
  rw [hc]; rfl
abbrev taken : List Str := ["some", "no", "least", "most", "each", "in", "and", "or", "not", "same", "all", "none", "kind", "tie"]
theorem e_taken {ys : List Str} (h4 : es[4]? = some (some (.list (taken.map .str)))) (h5 : es[5]? = some (some (.list (ys.map .str)))) (hy : ys.length ≤ 100) : Ep K (tOp rCat (tVar 4) (tVar 5)) es fun d => RowS d (taken ++ ys) :=
  (e_cat (e_var h4) (e_var h5) (by rw [List.length_map, List.length_map]; show 14 + _ ≤ _; omega)).weak fun d e => .inl (by rw [e, List.map_append])
theorem purses (a b : Nat) : (List.replicate (a : Int).toNat [purseD]).flatten ++ (List.replicate (b : Int).toNat [purseD]).flatten = List.replicate (a + b) purseD := by
  rw [Int.toNat_natCast, Int.toNat_natCast, List.flatten_replicate_singleton, List.flatten_replicate_singleton, List.replicate_append_replicate]
theorem sd__law_any_names (ns : List Int) (a b : Nat) (ha : a ≤ 4) (hb : b ≤ 4) : Sd K 5 (t__law_any_names K) [some (pyR ns), some (nI a), some (nI b), none, none, none, none, none, none, none, none, none, none] none N fun d => ∃ xs : List Str, d = .list (xs.map .str) ∧ xs.length = a + b := by
  refine sd_setd (d := .str letters) e_str (by decide) ?_
  refine sd_setd (d := .list (taken.map .str)) (e_lstd (e_consd e_str (e_consd e_str (e_consd e_str (e_consd e_str (e_consd e_str (e_consd e_str (e_consd e_str (e_consd e_str (e_consd e_str (e_consd e_str (e_consd e_str (e_consd e_str (e_consd e_str (e_consd e_str e_nil)))))))))))))) (by simp)) (by decide) ?_
  refine sd_seq (sd_own (ef_lst (e_consd e_str e_nil) fun ds e => by rw [e]; simp) (by simp) fun ds e => ?_)
  subst e
  have pur : ∀ (k : Nat) (es : Env), k ≤ 2 → es[0]? = some (some (pyR ns)) → Ed K (tCall (sp__law_purse K) [] E0 (tCons (tVar 0) (tCons (tC (.int (k : Int))) tNil))) es purseD := fun k es hk h => e_calld (ns, k) (e_consd (e_var h) (e_consd e_int e_nil)) (by show k ≤ 100; omega) fun d h => h
  refine sd_seq (sd_forL (ds := List.replicate (a + b) purseD) ((e_cat (e_rep (xs := [purseD]) (n := (a : Int)) (e_lstd (e_consd (pur 1 _ (by decide) rfl) e_nil) (by simp)) (e_var rfl) (by omega) (by omega) (by simp)) (e_rep (xs := [purseD]) (n := (b : Int)) (e_lstd (e_consd (pur 2 _ (by decide) rfl) e_nil) (by simp)) (e_var rfl) (by omega) (by omega) (by simp)) ?_).is (congrArg PyData.list (purses a b))) (by decide)
    (fun k es o => ∃ x6 x7 x8 x9, es = [some (pyR ns), some (nI a), some (nI b), some (.str letters), some (.list (taken.map .str)), none, x6, x7, x8, x9, none, none, none] ∧ ∃ ys : List Str, o = some (ys.map .str) ∧ ys.length = k + 1) ⟨none, none, none, none, rfl, ["say"], rfl, rfl⟩ ?_ ?_)
  · have q := congrArg List.length (purses a b)
    rw [List.length_append, List.length_replicate] at q
    omega
  · rintro k d es1 o1 hd ⟨x6, x7, x8, x9, rfl, ys, rfl, hy⟩
    have hk : k < a + b := by
      have := (List.getElem?_eq_some_iff.mp hd).1
      rw [List.length_replicate] at this; exact this
    have hd : d = purseD := List.eq_of_mem_replicate (List.mem_of_getElem? hd)
    subst hd
    refine sd_set (P := fun d => ∃ s : Nat, d = nI s ∧ s ≤ 8) (e_op (Pa := fun d => d = nI 1) (n_c (n := 1)) (e_next (m := 8) (e_var rfl) (n_c (n := 8)) (by decide) (by decide)) fun x y hx ⟨r, hr, hl⟩ => ?_) (by decide) fun d ⟨s, hd, hs⟩ => ?_
    · subst hx; subst hr
      exact r_I0 (fun F => .int _) ⟨1 + r, congrArg PyData.int (Int.natCast_add 1 r).symm, by omega⟩
    subst hd
    refine sd_set (e_join (a := ("" : Str)) (PA := fun ys => (∀ y, y ∈ ys → y.length = 1) ∧ ys.length = s) e_str (e_ones (e_var rfl) (by omega) (by decide) fun k hk => ?_) fun zs ⟨q1, q2⟩ => ?_) (by decide) fun d ⟨zs, hd, q1, q2⟩ => ?_
    · refine e_op (Pa := fun d => d = .str letters) (e_var rfl) (e_next (m := 26) (e_var rfl) (n_c (n := 26)) (by decide) (by decide)) fun x y hx ⟨r, hr, hl⟩ => ?_
      subst hx; subst hr
      exact r_ixS (c := letters.cps.toList[r]'(by rw [Array.length_toList, letters_26]; exact hl)) letters_l (L2.atI_nat (List.getElem?_eq_getElem _)) ⟨_, rfl⟩
    · rw [sum_ones zs q1, q2]
      show s + s * 0 ≤ _
      omega
    subst hd
    have hn : (Txt.join ("" : Str) zs).length ≤ 8 := by
      have := PySem.W.KT.join_ones zs q1
      have e : (Txt.join ("" : Str) zs).length = zs.length := this
      omega
    generalize Txt.join ("" : Str) zs = nm at hn
    have fin : ∀ (x9 : Option PyData) (z : Str), Sd K 5 (tDrop (tBM K "list" rAppend (tVar 5) (tCons (tVar 8) tNil))) [some (pyR ns), some (nI a), some (nI b), some (.str letters), some (.list (taken.map .str)), none, some purseD, some (nI s), some (.str z), x9, none, none, none] (some (ys.map .str))
        (fun es o => ∃ x6 x7 x8 x9, es = [some (pyR ns), some (nI a), some (nI b), some (.str letters), some (.list (taken.map .str)), none, x6, x7, x8, x9, none, none, none] ∧ ∃ ys : List Str, o = some (ys.map .str) ∧ ys.length = k + 1 + 1) (fun d => ∃ xs : List Str, d = .list (xs.map .str) ∧ xs.length = a + b) := fun x9 z =>
      sd_app (e_var rfl) (by rw [List.length_map]; omega) fun d e => by
        subst e
        exact ⟨_, _, _, _, rfl, ys ++ [z], by rw [List.map_append]; rfl, by rw [List.length_append, hy]; rfl⟩
    refine sd_seq (sd_ifV (t_testd (e_inS (x := nm) (ys := taken ++ ys) (e_var rfl) (e_taken rfl rfl (by omega)))) (fun _ => ?_) fun _ => ?_)
    · refine sd_set (e_lcSd (x := letters) (g := fun c => .str (cutS nm none (some 7) ++ ⟨#[c]⟩)) (e_var rfl) (by rw [letters_26]; decide) (by decide) fun c hc => e_addS (e_slS (e_var rfl) o_none (o_some e_int) (by omega)) (e_var rfl) ?_) (by decide) fun d hd => ?_
      · have := cutS_le nm none (some 7)
        show _ + 1 ≤ _
        omega
      subst hd
      refine sd_asgV (P := fun d => ∃ z : Str, d = .str z) ?_ (by decide) (fun d ⟨z, hz⟩ => by rw [hz]; rfl) fun d ⟨z, hz⟩ => ?_
      · have hu := some_free (cutS nm none (some 7)) (taken ++ ys) (by rw [List.length_append]; show 14 + _ < _; omega)
        generalize hxs : letters.cps.toList.map (fun c => PyData.str (cutS nm none (some 7) ++ ⟨#[c]⟩)) = xs
        have str : ∀ x, x ∈ xs → ∃ z : Str, x = .str z := fun x hx => by
          rw [← hxs] at hx
          obtain ⟨c, _, rfl⟩ := List.mem_map.mp hx
          exact ⟨_, rfl⟩
        have hlen : xs.length = 26 := by rw [← hxs, List.length_map, Array.length_toList, letters_26]
        refine e_op (Pa := fun d => d = .list ((xs.filter (fun d => match d with | .str z => !decide (z ∈ taken ++ ys) | _ => false)).map id)) (Pb := fun d => d = .int 0) (e_lcLf (p := fun d => match d with | .str z => !decide (z ∈ taken ++ ys) | _ => false) (g := id) (e_var rfl) (by omega) (by decide) (fun x hx => ?_) fun x hx _ => e_var rfl) e_int fun x y hx hy => ?_
        · obtain ⟨z, rfl⟩ := str x hx
          exact t_testd (e_niS (e_var rfl) (e_taken rfl rfl (by omega)))
        · subst hx; subst hy
          rw [List.map_id]
          obtain ⟨c, hc, hcf⟩ := hu
          have hm : PyData.str (cutS nm none (some 7) ++ ⟨#[c]⟩) ∈ xs.filter (fun d => match d with | .str z => !decide (z ∈ taken ++ ys) | _ => false) := by
            rw [List.mem_filter]
            refine ⟨by rw [← hxs]; exact List.mem_map.mpr ⟨c, hc, rfl⟩, ?_⟩
            show (!decide _) = true
            rw [decide_eq_false hcf]; rfl
          have hpos := List.length_pos_of_mem hm
          refine r_ixL (atI_n (k := 0) (List.getElem?_eq_getElem hpos)) ?_
          exact str _ (List.mem_filter.mp (List.getElem_mem hpos)).1
      · subst hz
        exact fin _ z
    · exact sd_next (fin _ nm)
  · rintro es1 o1 ⟨x6, x7, x8, x9, rfl, ys, rfl, hy⟩
    rw [List.length_replicate] at hy
    cases ys with
    | nil => cases hy
    | cons y r =>
      refine sd_freeze (sd_retd (e_slL (e_var rfl) (o_some e_int) o_none) ⟨r, ?_, ?_⟩)
      · rw [List.map_cons]
        exact congrArg PyData.list (cut_tail _ _)
      · rw [List.length_cons] at hy; omega
end
end Wf


set_option maxHeartbeats 1000000
/-! The law. -/
namespace Wf
open PySem PySem.Spec PyProof.Rows L2
section
variable {K : PySem.W.Frag} {N : NP} {es : Env} {te ta tb tc : TE} {tA : TA}
theorem e_lenScr {ns : List Int} (h : Ed K te es (pyR ns)) : Ed K (tCB (qLen K) (tCons te tNil)) es (nI ns.length) := fun σ F H s E Q q =>
  h σ F H s E _ fun v F1 H1 x e1 hd ex => by
    subst ex
    obtain ⟨a, rfl, ha⟩ := hd.script_
    exact ⟨a, _, rfl, .inl (e1.s.seq ha), q _ F1 H1 _ e1 (.int _) (by rw [List.length_map])⟩
theorem e_3 {x y : PyData} {P : PyData → Prop} (ha : Ed K ta es x) (hb : Ed K tb es y) (hc : Ep K tc es P) : EpA K (tCons ta (tCons tb (tCons tc tNil))) es fun ds => ∃ z, ds = [x, y, z] ∧ P z :=
  e_cons (PA := fun ds => ∃ z, ds = [y, z] ∧ P z) ha (e_cons (PA := fun ds => ∃ z, ds = [z] ∧ P z) hb (e_cons (PA := fun ds => ds = []) hc e_nil fun d ds h e => ⟨d, by rw [e], h⟩) fun d ds e ⟨z, e2, h⟩ => ⟨z, by rw [e, e2], h⟩) fun d ds e ⟨z, e2, h⟩ => ⟨z, by rw [e, e2], h⟩
theorem e_m {x y : PyData} {P : PyData → Prop} (ha : Ed K ta es x) (hb : Ep K tb es P) (hc : Ed K tc es y) : EpA K (tCons ta (tCons tb (tCons tc tNil))) es fun ds => ∃ z, ds = [x, z, y] ∧ P z :=
  e_cons (PA := fun ds => ∃ z, ds = [z, y] ∧ P z) ha (e_cons (PA := fun ds => ds = [y]) hb (e_consd hc e_nil) fun d ds h e => ⟨d, by rw [e], h⟩) fun d ds e ⟨z, e2, h⟩ => ⟨z, by rw [e, e2], h⟩
theorem e_two {b : Bool} (x y : Nat) (hc : Ed K tb es (.bool b)) : Ed K (tOp (rIxL K) (tLst (tCons (tC (.int (x : Int))) (tCons (tC (.int (y : Int))) tNil))) (tCB rInt1 (tCons tb tNil))) es (nI (if b = true then y else x)) := by
  refine e_ixL (e_lstd (e_consd n_c (e_consd n_c e_nil)) (by simp)) (e_intB hc) ?_
  cases b <;> rfl
theorem sd_law (ns : List Int) (hz : ns.length ≤ 63) : Sd K 99 (t_law K) [some (pyR ns), none, none, none, none, none, none, none, none, none, none, none] none N fun d => d = .bool true := by
  refine sd_set (e_callr ns (e_consd (e_var rfl) e_nil) trivial) (by decide) fun d ⟨kn, tn, hd, h1, h2⟩ => ?_
  subst hd
  refine sd_setd (d := pyL (kn ++ tn)) (e_catN (e_t0 (e_var rfl)) (e_t1 (e_var rfl)) (by omega)) (by decide) ?_
  refine sd_setd (e_calld (ns, 3) (e_consd (e_var rfl) (e_consd (n_c (n := 3)) e_nil)) (show 3 ≤ 100 by decide) fun d h => h) (by decide) ?_
  refine sd_set (e_callr () (e_consd (e_var rfl) e_nil) trivial) (by decide) fun d ⟨n, hd, hn⟩ => ?_
  subst hd
  refine sd_set (e_callr (kn, tn, n) (e_consd (e_var rfl) (e_consd (e_var rfl) (e_consd (e_var rfl) e_nil))) ⟨h1, h2, hn⟩) (by decide) fun d ⟨w, hd, wok, wn⟩ => ?_
  subst hd
  have wn : w.n = n := wn
  subst wn
  refine sd_set (e_callr (kn, tn, w.n) (e_consd (e_var rfl) (e_consd (e_var rfl) e_nil)) ⟨h1, h2, hn⟩) (by decide) fun d ⟨ss, hd, hss, hsp⟩ => ?_
  subst hd
  have hnm : (kn ++ tn).length ≤ 8 := by rw [List.length_append]; omega
  obtain ⟨M, hM1, hM2, hM⟩ : ∃ M : Int, M ≤ 63 ∧ 5 ≤ M ∧ (if (if ((ns.length : Nat) : Int) < 63 then ((ns.length : Nat) : Int) else 63) > 5 then (if ((ns.length : Nat) : Int) < 63 then ((ns.length : Nat) : Int) else 63) else 5) = M := by
    refine ⟨_, ?_, ?_, rfl⟩
    · have q : ∀ a : Int, a ≤ 63 → (if (if a < 63 then a else 63) > 5 then (if a < 63 then a else 63) else 5) ≤ 63 := fun a ha => by
        by_cases h : a < 63
        · rw [if_pos h]; split <;> omega
        · rw [if_neg h]; decide
      exact q _ (by omega)
    · have q : ∀ a : Int, 5 ≤ (if (if a < 63 then a else 63) > 5 then (if a < 63 then a else 63) else 5) := fun a => by
        by_cases h : a < 63
        · rw [if_pos h]; split <;> omega
        · rw [if_neg h]; decide
      exact q _
  refine sd_seq (sd_forR2 (lo := 4) (n := M) (e_consd e_int (e_consd ((e_mx2 (i := 5) (j := if ((ns.length : Nat) : Int) < 63 then ((ns.length : Nat) : Int) else 63) (e_consd e_int (e_consd (e_mn2 (i := 63) (j := ((ns.length : Nat) : Int)) (e_consd e_int (e_consd (e_lenScr (e_var rfl)) e_nil))) e_nil))).is (congrArg PyData.int hM)) e_nil)) (by decide)
    (fun _ es o => ∃ x3 x7 x8 x9 x10 x11, es = [some (pyR ns), some (pyQ kn tn), some (pyL (kn ++ tn)), x3, some (nI w.n), some (pyW w), some (.list (ss.map pySp)), x7, x8, x9, x10, x11] ∧ o = none) ⟨_, _, _, _, _, _, rfl, rfl⟩ ?_ ?_ (by omega) (by omega))
  · rintro k es1 o1 hk ⟨x3, x7, x8, x9, x10, x11, rfl, rfl⟩
    rw [show (4 : Int) + (k : Int) = ((4 + k : Nat) : Int) by omega]
    have ht : 4 + k ≤ 62 := by omega
    generalize 4 + k = t at ht
    refine sd_setd (e_calld (ns, t) (e_consd (e_var rfl) (e_consd (e_var rfl) e_nil)) (by show t ≤ 100; omega) fun d h => h) (by decide) ?_
    refine sd_set (P := fun d => ∃ ps : List Spot, d = .list (ps.map pySp) ∧ ps.length ≤ 4 ∧ ∀ s, s ∈ ps → s ∈ ss) (e_call (e_3 (x := .list (ss.map pySp)) (y := purseD) (e_var rfl) (e_var rfl) (e_next (m := if decide (6 < t) = true then 2 else 4) (e_var rfl) (e_two 4 2 (n_gt (a := t) (b := 6) (e_var rfl) (n_c (n := 6)))) (by split <;> decide) (by split <;> decide))) fun ds ⟨z, q1, r, q2, q3⟩ => ⟨(ss, r), by rw [q1, q2], ⟨hss, by show r ≤ 4; split at q3 <;> omega⟩, fun d ⟨ps, p1, p2, p3⟩ => ⟨ps, p1, Nat.le_trans p2 (by show r ≤ 4; split at q3 <;> omega), p3⟩⟩) (by decide) fun d ⟨ps, hd, hps, hmem⟩ => ?_
    subst hd
    refine sd_set (P := fun d => ∃ e : E, d = pyE e ∧ eOk (kn ++ tn) e ∧ eDep e < 9) (e_call (e_m (x := purseD) (y := pyL (kn ++ tn)) (e_var rfl) (e_next (m := if decide (6 < t) = true then 3 else 4) (e_var rfl) (e_two 4 3 (n_gt (a := t) (b := 6) (e_var rfl) (n_c (n := 6)))) (by split <;> decide) (by split <;> decide)) (e_var rfl)) fun ds ⟨z, q1, r, q2, q3⟩ => ⟨(r, kn ++ tn), by rw [q1, q2], ⟨hnm, by show r < 9; split at q3 <;> omega⟩, fun d ⟨e, p1, p2, p3⟩ => ⟨e, p1, p2, Nat.lt_of_le_of_lt p3 (by show r < 9; split at q3 <;> omega)⟩⟩) (by decide) fun d ⟨e, hd, he, hed⟩ => ?_
    subst hd
    obtain ⟨lo, hi, row⟩ := btw_row ps (Row.one w)
    have wall := btw_ok (ss := ps) wok fun s hs => hsp s (hmem s hs)
    have mlo : lo ∈ btw [w] ps := List.mem_of_mem_head? row.fst
    have mhi : hi ∈ btw [w] ps := List.mem_of_getLast? row.lst
    have rest : ∀ s : Sg, sOk (kn ++ tn) s → sDep s < 9 → Sd K 99 (tSeq (tAsg (tCall (sp__law_between K) [] E0 (tCons (tVar 5) (tCons (tVar 8) tNil))) (gName 10))
        (tIfS (tNot (tB (tCall (sp__law_so K) [] E0 (tCons (tVar 1) (tCons (tTup (tCons (tOp (rIxL K) (tVar 10) (tC (.int 0))) (tCons (tOp (rIxL K) (tVar 10) (tUn qNeg (tC (.int 1)))) tNil))) (tCons (tVar 10) (tCons (tVar 11) (tCons (tVar 9) tNil)))))))) (tRet (tC (.bl false))) tNext))
        [some (pyR ns), some (pyQ kn tn), some (pyL (kn ++ tn)), some purseD, some (nI w.n), some (pyW w), some (.list (ss.map pySp)), some (nI t), some (.list (ps.map pySp)), some (pyE e), x10, some (pyS s)] none
        (fun es o => ∃ x3 x7 x8 x9 x10 x11, es = [some (pyR ns), some (pyQ kn tn), some (pyL (kn ++ tn)), x3, some (nI w.n), some (pyW w), some (.list (ss.map pySp)), x7, x8, x9, x10, x11] ∧ o = none) (fun d => d = .bool true) := by
      intro s hs hsd
      refine sd_setd (e_calld (⟨kn, tn, w⟩, ps) (e_consd (e_var rfl) (e_consd (e_var rfl) e_nil)) ⟨wok, h1, h2, hps, fun s hs => hsp s (hmem s hs)⟩ fun d h => h) (by decide) ?_
      have l0 : ∀ es : Env, es[10]? = some (some (.list ((btw [w] ps).map pyW))) → Ed K (tOp (rIxL K) (tVar 10) (tC (.int 0))) es (pyW lo) := fun es h => e_lk (k := 0) (e_var h) (n_c (n := 0)) (by
        rw [List.getElem?_map]
        have := row.fst
        rw [List.head?_eq_getElem?] at this
        rw [this]; rfl)
      have l1 : ∀ es : Env, es[10]? = some (some (.list ((btw [w] ps).map pyW))) → Ed K (tOp (rIxL K) (tVar 10) (tUn qNeg (tC (.int 1)))) es (pyW hi) := fun es h => by
        obtain ⟨ys, hys⟩ := List.getLast?_eq_some_iff.mp row.lst
        exact e_ixL (ds := (ys.map pyW) ++ [pyW hi]) ((e_var h).is (by rw [hys, List.map_append]; rfl)) (e_neg e_int) (atI_last _ _)
      have wlo := wall lo mlo
      have whi := wall hi mhi
      refine sd_ifd (b := false) ((t_not (t_Bd (e_calld (⟨⟨kn, tn, lo, hi⟩, btw [w] ps, s, e⟩ : ISo) (e_consd (e_var rfl) (e_consd (e_tupd (e_consd (l0 _ rfl) (e_consd (l1 _ rfl) e_nil)) (by simp)) (e_consd (e_var rfl) (e_consd (e_var rfl) (e_consd (e_var rfl) e_nil))))) ⟨⟨wlo.1, whi.1, wlo.2.trans whi.2.symm⟩, fun v hv => ⟨(wall v hv).1, (wall v hv).2.trans wlo.2.symm, (row.mem v hv).2.2.1, (row.mem v hv).2.2.2⟩, hs, hsd, he, hed⟩ fun d h => h))).is rfl) (fun z => nomatch z) fun _ => sd_next ⟨_, _, _, _, _, _, rfl, rfl⟩
    refine sd_seq (sd_ifd (b := decide (6 < t)) (t_testd (n_gt (a := t) (b := 6) (e_var rfl) (n_c (n := 6)))) (fun _ => ?_) fun _ => ?_)
    · refine sd_asg (e_callr (kn ++ tn, e) (e_consd (e_var rfl) (e_consd (e_var rfl) (e_consd (e_var rfl) e_nil))) ⟨hnm, he, hed⟩) (by decide) fun d ⟨s, hd, hs, hsd⟩ => ?_
      subst hd
      exact rest s hs (by omega)
    · refine sd_asg (P := fun d => ∃ s : Sg, d = pyS s ∧ sOk (kn ++ tn) s ∧ sDep s < 9) (e_call (e_m (x := purseD) (y := pyL (kn ++ tn)) (e_var rfl) (e_next (m := 3) (e_var rfl) (n_c (n := 3)) (by decide) (by decide)) (e_var rfl)) fun ds ⟨z, q1, r, q2, q3⟩ => ⟨(r, kn ++ tn), by rw [q1, q2], ⟨hnm, by show r < 9; omega⟩, fun d ⟨s, p1, p2, p3⟩ => ⟨s, p1, p2, Nat.lt_of_le_of_lt p3 (by show r < 9; omega)⟩⟩) (by decide) fun d ⟨s, hd, hs, hsd⟩ => ?_
      subst hd
      exact rest s hs hsd
  · rintro es1 o1 ⟨x3, x7, x8, x9, x10, x11, rfl, rfl⟩
    exact sd_retd e_bl rfl
end
end Wf


set_option maxHeartbeats 1000000
/-! Each def keeps its promise: printed by genend.py. -/
namespace Wf
open PySem PySem.Spec PyProof.Rows L2
section
variable {P : Program} {w : World} {K : PySem.W.Frag} {mg : Str → Option Value} {base : Heap}
/-- nothing is asked of it, so it keeps it -/
theorem good_none {x : Str} {st : Stmt} {ps : List Str} {k : Nat} {sp : Sp} (F : Has K mg x st ps) (no : ∀ vs H Q E, ¬ sp vs H Q E) : Good P w K mg base x ps k sp := by
  obtain ⟨f, fd, Fn, b, m⟩ := F
  exact ⟨f, fd, ⟨fun vs H Q E q => (no _ _ _ _ q).elim, fun A outer s H args us vs Q E hr he hb hv hs => (no _ _ _ _ hs).elim⟩, b, m, Fn.kp⟩
/-- a def by its place, over data -/
theorem fnok_of {ι : Type} {A : ι → List PyData} {ok : ι → Prop} {R : ι → PyData → Prop} {t : TS} {j : Nat} {x : Str} {st : Stmt} {N ps : List Str} {k : Nat} {f : Addr} {fd : FuncData} (Fn : Fun K x x st f fd) (S : FnScope N ps (defScope st)) (hl : ∀ i, (A i).length = ps.length)
    (h : ∀ (f : Addr) (cdv : Value) (Ar : Around) (outer : List PySem.Env) (s : Shared) (H : Hp) (E : XK), Room k (Ar.deeper (envOfC x (defScope st) s.heap.objs.size f cdv)) →
      PSs (cxOf CX0 P w K mg base N x (defScope st) f cdv Ar outer s H E).nox (defBody st) t)
    (hs : ∀ i, ok i → Sd K j t (startE N (A i)) none (fun _ _ => R i .none) (R i)) : FnOk P w K mg base CX0 (k + 1) f fd ps (spI K A ok R) := by
  refine Fn.ok S (fun vs H Q E ⟨i, hi, F0, s, hn, q⟩ => by rw [hn.len]; exact hl i) (fun cdv Ar outer s H vs Q E hr hsp => ⟨t, h f cdv Ar outer s H E hr, ?_⟩)
  obtain ⟨i, hi, F0, sF, hn, q⟩ := hsp
  exact hs i hi F0 H (L2.start N vs) F0 H _ (.refl sF) (start_ok hn) trivial (fun σ2 F2 H2 es2 o2 x2 _ _ _ r => q .non F2 H2 .none x2 .non r) (fun v F2 H2 d x2 hd r => q v F2 H2 d x2 hd r)
/-- what the top has written -/
structure Top (K : PySem.W.Frag) (mg : Str → Option Value) : Prop where
  Z_isinstance : mg "isinstance" = none
  Z_int : mg "int" = none
  Z_bool : mg "bool" = none
  Z_range : mg "range" = none
  Z_all : mg "all" = none
  Z_any : mg "any" = none
  Z_sum : mg "sum" = none
  Z_tuple : mg "tuple" = none
  Z_len : mg "len" = none
  Z_sorted : mg "sorted" = none
  Z_list : mg "list" = none
  Z_max : mg "max" = none
  Z_min : mg "min" = none
  F_is_within : Has K mg "is_within" s_is_within ["size", "thing"]
  F_row_of : Has K mg "row_of" s_row_of ["size", "tie", "a"]
  F_pairs_of : Has K mg "pairs_of" s_pairs_of ["size", "tie"]
  F_tie_of : Has K mg "tie_of" s_tie_of ["size", "pairs"]
  F_common : Has K mg "common" s_common ["one", "other"]
  F_either : Has K mg "either" s_either ["one", "other"]
  F_without : Has K mg "without" s_without ["one", "other"]
  F_turned : Has K mg "turned" s_turned ["size", "tie"]
  F_joined : Has K mg "joined" s_joined ["size", "one", "other"]
  F_closed : Has K mg "closed" s_closed ["size", "tie"]
  F_same : Has K mg "same" s_same ["size"]
  F_every : Has K mg "every" s_every ["size"]
  F_kind_tie : Has K mg "kind_tie" s_kind_tie ["size", "kind"]
  F_named : Has K mg "named" s_named ["words", "world", "name"]
  F_made : Has K mg "made" s_made ["size", "word", "parts"]
  F_tied_numbers : Has K mg "tied_numbers" s_tied_numbers ["size", "tie"]
  F_bounds : Has K mg "bounds" s_bounds ["words", "part", "expression"]
  F_told_in : Has K mg "told_in" s_told_in ["one", "other"]
  F_told_both : Has K mg "told_both" s_told_both ["one", "other"]
  F_told_not : Has K mg "told_not" s_told_not ["one"]
  F_told_least : Has K mg "told_least" s_told_least ["low", "high", "number"]
  F_told_most : Has K mg "told_most" s_told_most ["low", "high", "number"]
  F_told_fact : Has K mg "told_fact" s_told_fact ["size", "saying", "parts"]
  F_told : Has K mg "told" s_told ["words", "part", "saying"]
  F__law_cell : Has K mg "_law_cell" s__law_cell ["_law_script", "_law_k"]
  F__law_purse : Has K mg "_law_purse" s__law_purse ["_law_script", "_law_k"]
  F__law_next : Has K mg "_law_next" s__law_next ["_law_purse_here", "_law_many"]
  F__law_family : Has K mg "_law_family" s__law_family ["_law_cell_here", "_law_many"]
  F__law_any_names : Has K mg "_law_any_names" s__law_any_names ["_law_script", "_law_kinds", "_law_ties"]
  F__law_words : Has K mg "_law_words" s__law_words ["_law_script"]
  F__law_size : Has K mg "_law_size" s__law_size ["_law_purse_here"]
  F__law_world : Has K mg "_law_world" s__law_world ["_law_words_here", "_law_size_here", "_law_purse_here"]
  F__law_leaf : Has K mg "_law_leaf" s__law_leaf ["_law_purse_here", "_law_names"]
  F__law_expression : Has K mg "_law_expression" s__law_expression ["_law_purse_here", "_law_depth", "_law_names"]
  F__law_fact : Has K mg "_law_fact" s__law_fact ["_law_purse_here", "_law_names"]
  F__law_saying : Has K mg "_law_saying" s__law_saying ["_law_purse_here", "_law_depth", "_law_names"]
  F__law_grid : Has K mg "_law_grid" s__law_grid ["_law_size_here", "_law_tie"]
  F__law_named : Has K mg "_law_named" s__law_named ["_law_words_here", "_law_world_here", "_law_name"]
  F__law_closed : Has K mg "_law_closed" s__law_closed ["_law_grid_here"]
  F__law_two : Has K mg "_law_two" s__law_two ["_law_word", "_law_one", "_law_other"]
  F__law_value : Has K mg "_law_value" s__law_value ["_law_words_here", "_law_world_here", "_law_expression_here"]
  F__law_counts : Has K mg "_law_counts" s__law_counts ["_law_grid_here"]
  F__law_fact_kept : Has K mg "_law_fact_kept" s__law_fact_kept ["_law_words_here", "_law_world_here", "_law_saying_here"]
  F__law_kept : Has K mg "_law_kept" s__law_kept ["_law_words_here", "_law_world_here", "_law_saying_here"]
  F__law_spots : Has K mg "_law_spots" s__law_spots ["_law_words_here", "_law_size_here"]
  F__law_bit_put : Has K mg "_law_bit_put" s__law_bit_put ["_law_world_here", "_law_spot", "_law_truth"]
  F__law_picked : Has K mg "_law_picked" s__law_picked ["_law_spots_here", "_law_purse_here", "_law_many"]
  F__law_between : Has K mg "_law_between" s__law_between ["_law_world_here", "_law_some"]
  F__law_number : Has K mg "_law_number" s__law_number ["_law_grid_here"]
  F__law_so : Has K mg "_law_so" s__law_so ["_law_words_here", "_law_part", "_law_worlds", "_law_saying_here", "_law_expression_here"]
  F__law_light : Has K mg "_law_light" s__law_light ["_law_purse_here", "_law_names", "_law_one"]
theorem g_is_within (T : Top K mg) : Good P w K mg base "is_within" ["size", "thing"] 1 (sp_is_within K) :=
  good_of (k := 0) T.F_is_within sc_is_within (fun _ => rfl) (p_is_within (k := 0) T.Z_isinstance T.Z_int T.Z_bool) fun i h => sd_is_within i.1 i.2 h
theorem g_row_of (T : Top K mg) : Good P w K mg base "row_of" ["size", "tie", "a"] 1 (sp_row_of K) :=
  good_of (k := 0) T.F_row_of sc_row_of (fun _ => rfl) (p_row_of (k := 0) ) fun i h => sd_row_of i.1 i.2.1 i.2.2 h.1 h.2
theorem g_pairs_of (T : Top K mg) : Good P w K mg base "pairs_of" ["size", "tie"] 1 (sp_pairs_of K) :=
  good_of (k := 0) T.F_pairs_of sc_pairs_of (fun _ => rfl) (p_pairs_of (k := 0) T.Z_range) fun i h => sd_pairs_of i.1 i.2 h
theorem g_tie_of (T : Top K mg) : Good P w K mg base "tie_of" ["size", "pairs"] 2 (sp_tie_of K) :=
  good_of (k := 1) T.F_tie_of sc_tie_of (fun _ => rfl) (p_tie_of (k := 1) ((g_is_within (P := P) (w := w) (base := base) T).mono (by omega))) fun i h => sd_tie_of i h
theorem g_common (T : Top K mg) : Good P w K mg base "common" ["one", "other"] 1 (sp_common K) :=
  good_of (k := 0) T.F_common sc_common (fun _ => rfl) (p_common (k := 0) ) fun i h => sd_common i.1 i.2.1 i.2.2
theorem g_either (T : Top K mg) : Good P w K mg base "either" ["one", "other"] 1 (sp_either K) :=
  good_of (k := 0) T.F_either sc_either (fun _ => rfl) (p_either (k := 0) ) fun i h => sd_either i.1 i.2.1 i.2.2
theorem g_without (T : Top K mg) : Good P w K mg base "without" ["one", "other"] 1 (sp_without K) :=
  good_of (k := 0) T.F_without sc_without (fun _ => rfl) (p_without (k := 0) ) fun i h => sd_without i.1 i.2.1 i.2.2
theorem g_turned (T : Top K mg) : Good P w K mg base "turned" ["size", "tie"] 2 (sp_turned K) :=
  good_of (k := 1) T.F_turned sc_turned (fun _ => rfl) (p_turned (k := 1) ((g_pairs_of (P := P) (w := w) (base := base) T).mono (by omega))) fun i h => sd_turned i.1 i.2 h
theorem g_joined (T : Top K mg) : Good P w K mg base "joined" ["size", "one", "other"] 2 (sp_joined K) :=
  good_of (k := 1) T.F_joined sc_joined (fun _ => rfl) (p_joined (k := 1) ((g_pairs_of (P := P) (w := w) (base := base) T).mono (by omega)) ((g_row_of (P := P) (w := w) (base := base) T).mono (by omega))) fun i h => sd_joined i.1 i.2.1 i.2.2 h
theorem g_closed (T : Top K mg) : Good P w K mg base "closed" ["size", "tie"] 3 (sp_closed K) :=
  good_of (k := 2) T.F_closed sc_closed (fun _ => rfl) (p_closed (k := 2) T.Z_range ((g_joined (P := P) (w := w) (base := base) T).mono (by omega))) fun i h => sd_closed i.1 i.2 h
theorem g_same (T : Top K mg) : Good P w K mg base "same" ["size"] 3 (sp_same K) :=
  good_of (k := 2) T.F_same sc_same (fun _ => rfl) (p_same (k := 2) T.Z_range ((g_tie_of (P := P) (w := w) (base := base) T).mono (by omega))) fun i h => sd_same i h
theorem g_every (T : Top K mg) : Good P w K mg base "every" ["size"] 1 (sp_every K) :=
  good_of (k := 0) T.F_every sc_every (fun _ => rfl) (p_every (k := 0) ) fun i h => sd_every i h
theorem g_kind_tie (T : Top K mg) : Good P w K mg base "kind_tie" ["size", "kind"] 1 (sp_kind_tie K) :=
  good_of (k := 0) T.F_kind_tie sc_kind_tie (fun _ => rfl) (p_kind_tie (k := 0) T.Z_range) fun i h => sd_kind_tie i.1 i.2 h
theorem g_named (T : Top K mg) : Good P w K mg base "named" ["words", "world", "name"] 2 (sp_named K) :=
  good_of (k := 1) T.F_named sc_named (fun _ => rfl) (p_named (k := 1) ((g_kind_tie (P := P) (w := w) (base := base) T).mono (by omega))) fun i h => sd_named i.kn i.tn i.w i.s h.1 h.2
theorem g_made (T : Top K mg) : Good P w K mg base "made" ["size", "word", "parts"] 4 (sp_made K) :=
  good_of (k := 3) T.F_made sc_made (fun _ => rfl) (p_made (k := 3) ((g_same (P := P) (w := w) (base := base) T).mono (by omega)) ((g_every (P := P) (w := w) (base := base) T).mono (by omega)) ((g_either (P := P) (w := w) (base := base) T).mono (by omega)) ((g_without (P := P) (w := w) (base := base) T).mono (by omega)) ((g_common (P := P) (w := w) (base := base) T).mono (by omega)) ((g_joined (P := P) (w := w) (base := base) T).mono (by omega)) ((g_turned (P := P) (w := w) (base := base) T).mono (by omega)) ((g_closed (P := P) (w := w) (base := base) T).mono (by omega))) fun i h => sd_made i.1 i.2 h
theorem g_tied_numbers (T : Top K mg) : Good P w K mg base "tied_numbers" ["size", "tie"] 2 (sp_tied_numbers K) :=
  good_of (k := 1) T.F_tied_numbers sc_tied_numbers (fun _ => rfl) (p_tied_numbers (k := 1) ((g_pairs_of (P := P) (w := w) (base := base) T).mono (by omega))) fun i h => sd_tied_numbers i.1 i.2 h
theorem g_bounds (T : Top K mg) (m : Nat) : Good P w K mg base "bounds" ["words", "part", "expression"] (4 + m) (sp_bounds K m) := by
  induction m with
  | zero => exact good_none T.F_bounds fun vs H Q E ⟨i, hi, _⟩ => Nat.not_lt_zero _ ( hi.2.2)
  | succ m ih => exact good_of (k := 4 + m) T.F_bounds sc_bounds (fun _ => rfl) (p_bounds (k := 4 + m) ((g_named (P := P) (w := w) (base := base) T).mono (by omega)) (ih) ((g_without (P := P) (w := w) (base := base) T).mono (by omega)) ((g_made (P := P) (w := w) (base := base) T).mono (by omega))) fun i h => sd_bounds i.1 i.2 h.1 h.2.1 h.2.2
theorem g_told_in (T : Top K mg) : Good P w K mg base "told_in" ["one", "other"] 2 (sp_told_in K) :=
  good_of (k := 1) T.F_told_in sc_told_in (fun _ => rfl) (p_told_in (k := 1) ((g_without (P := P) (w := w) (base := base) T).mono (by omega))) fun i h => sd_told_in i.1 i.2.1 i.2.2
theorem g_told_both (T : Top K mg) : Good P w K mg base "told_both" ["one", "other"] 1 (sp_told_both K) :=
  good_of (k := 0) T.F_told_both sc_told_both (fun _ => rfl) (p_told_both (k := 0) ) fun i h => sd_told_both i.1 i.2
theorem g_told_not (T : Top K mg) : Good P w K mg base "told_not" ["one"] 1 (sp_told_not K) :=
  good_of (k := 0) T.F_told_not sc_told_not (fun _ => rfl) (p_told_not (k := 0) ) fun i h => sd_told_not i
theorem g_told_least (T : Top K mg) : Good P w K mg base "told_least" ["low", "high", "number"] 1 (sp_told_least K) :=
  good_of (k := 0) T.F_told_least sc_told_least (fun _ => rfl) (p_told_least (k := 0) T.Z_all T.Z_any) fun i h => sd_told_least i.1 i.2.1 i.2.2 h.1 h.2
theorem g_told_most (T : Top K mg) : Good P w K mg base "told_most" ["low", "high", "number"] 1 (sp_told_most K) :=
  good_of (k := 0) T.F_told_most sc_told_most (fun _ => rfl) (p_told_most (k := 0) T.Z_all T.Z_any) fun i h => sd_told_most i.1 i.2.1 i.2.2 h.1 h.2
theorem g_told_fact (T : Top K mg) : Good P w K mg base "told_fact" ["size", "saying", "parts"] 3 (sp_told_fact K) :=
  good_of (k := 2) T.F_told_fact sc_told_fact (fun _ => rfl) (p_told_fact (k := 2) T.Z_sum ((g_told_in (P := P) (w := w) (base := base) T).mono (by omega)) ((g_told_both (P := P) (w := w) (base := base) T).mono (by omega)) ((g_tied_numbers (P := P) (w := w) (base := base) T).mono (by omega)) ((g_told_least (P := P) (w := w) (base := base) T).mono (by omega)) ((g_told_most (P := P) (w := w) (base := base) T).mono (by omega))) fun i h => sd_told_fact i.1 i.2 h.1 h.2
theorem g_told (T : Top K mg) (m : Nat) : Good P w K mg base "told" ["words", "part", "saying"] (13 + m) (sp_told K m) := by
  induction m with
  | zero => exact good_none T.F_told fun vs H Q E ⟨i, hi, _⟩ => Nat.not_lt_zero _ ( hi.2.2)
  | succ m ih => exact good_of (k := 13 + m) T.F_told sc_told (fun _ => rfl) (p_told (k := 13 + m) T.Z_isinstance T.Z_tuple (ih) ((g_told_not (P := P) (w := w) (base := base) T).mono (by omega)) ((g_told_both (P := P) (w := w) (base := base) T).mono (by omega)) ((g_bounds (P := P) (w := w) (base := base) T 9).mono (by omega)) ((g_told_fact (P := P) (w := w) (base := base) T).mono (by omega))) fun i h => sd_told i.1 i.2 h.1 h.2.1 h.2.2
theorem g__law_cell (T : Top K mg) : Good P w K mg base "_law_cell" ["_law_script", "_law_k"] 1 (sp__law_cell K) :=
  good_of (k := 0) T.F__law_cell sc__law_cell (fun _ => rfl) (p__law_cell (k := 0) T.Z_sum) fun i h => sd__law_cell i.1 i.2 h
theorem g__law_purse (T : Top K mg) : Good P w K mg base "_law_purse" ["_law_script", "_law_k"] 2 (sp__law_purse K) :=
  good_of (k := 1) T.F__law_purse sc__law_purse (fun _ => rfl) (p__law_purse (k := 1) T.Z_int ((g__law_cell (P := P) (w := w) (base := base) T).mono (by omega))) fun i h => sd__law_purse i.1 i.2 h
theorem g__law_next (T : Top K mg) : Good P w K mg base "_law_next" ["_law_purse_here", "_law_many"] 1 (sp__law_next K) :=
  good_of (k := 0) T.F__law_next sc__law_next (fun _ => rfl) (p__law_next (k := 0) ) fun i h => sd__law_next i h.1 h.2
theorem g__law_family (T : Top K mg) : Good P w K mg base "_law_family" ["_law_cell_here", "_law_many"] 1 (sp__law_family K) :=
  good_of (k := 0) T.F__law_family sc__law_family (fun _ => rfl) (p__law_family (k := 0) T.Z_range T.Z_len) fun i h => sd__law_family i.1 i.2 h.1 h.2
theorem g__law_any_names (T : Top K mg) : Good P w K mg base "_law_any_names" ["_law_script", "_law_kinds", "_law_ties"] 3 (sp__law_any_names K) :=
  good_of (k := 2) T.F__law_any_names sc__law_any_names (fun _ => rfl) (p__law_any_names (k := 2) T.Z_range ((g__law_purse (P := P) (w := w) (base := base) T).mono (by omega)) ((g__law_next (P := P) (w := w) (base := base) T).mono (by omega))) fun i h => sd__law_any_names i.1 i.2.1 i.2.2 h.1 h.2
theorem g__law_words (T : Top K mg) : Good P w K mg base "_law_words" ["_law_script"] 4 (sp__law_words K) :=
  good_of (k := 3) T.F__law_words sc__law_words (fun _ => rfl) (p__law_words (k := 3) T.Z_sorted T.Z_tuple ((g__law_purse (P := P) (w := w) (base := base) T).mono (by omega)) ((g__law_next (P := P) (w := w) (base := base) T).mono (by omega)) ((g__law_family (P := P) (w := w) (base := base) T).mono (by omega)) ((g__law_cell (P := P) (w := w) (base := base) T).mono (by omega)) ((g__law_any_names (P := P) (w := w) (base := base) T).mono (by omega))) fun i h => sd__law_words i
theorem g__law_size (T : Top K mg) : Good P w K mg base "_law_size" ["_law_purse_here"] 2 (sp__law_size K) :=
  good_of (k := 1) T.F__law_size sc__law_size (fun _ => rfl) (p__law_size (k := 1) ((g__law_next (P := P) (w := w) (base := base) T).mono (by omega))) fun i h => sd__law_size 
theorem g__law_world (T : Top K mg) : Good P w K mg base "_law_world" ["_law_words_here", "_law_size_here", "_law_purse_here"] 2 (sp__law_world K) :=
  good_of (k := 1) T.F__law_world sc__law_world (fun _ => rfl) (p__law_world (k := 1) T.Z_tuple ((g__law_next (P := P) (w := w) (base := base) T).mono (by omega))) fun i h => sd__law_world i.1 i.2.1 i.2.2 h.1 h.2.1 h.2.2
theorem g__law_leaf (T : Top K mg) : Good P w K mg base "_law_leaf" ["_law_purse_here", "_law_names"] 2 (sp__law_leaf K) :=
  good_of (k := 1) T.F__law_leaf sc__law_leaf (fun _ => rfl) (p__law_leaf (k := 1) T.Z_len ((g__law_next (P := P) (w := w) (base := base) T).mono (by omega))) fun i h => sd__law_leaf i h
theorem g__law_expression (T : Top K mg) (m : Nat) : Good P w K mg base "_law_expression" ["_law_purse_here", "_law_depth", "_law_names"] (2 + m) (sp__law_expression K m) := by
  induction m with
  | zero => exact good_none T.F__law_expression fun vs H Q E ⟨i, hi, _⟩ => Nat.not_lt_zero _ ( hi.2)
  | succ m ih => exact good_of (k := 2 + m) T.F__law_expression sc__law_expression (fun _ => rfl) (p__law_expression (k := 2 + m) ((g__law_next (P := P) (w := w) (base := base) T).mono (by omega)) ((g__law_leaf (P := P) (w := w) (base := base) T).mono (by omega)) (ih)) fun i h => sd__law_expression i.1 i.2 h.1 h.2
theorem g__law_fact (T : Top K mg) : Good P w K mg base "_law_fact" ["_law_purse_here", "_law_names"] 12 (sp__law_fact K) :=
  good_of (k := 11) T.F__law_fact sc__law_fact (fun _ => rfl) (p__law_fact (k := 11) ((g__law_next (P := P) (w := w) (base := base) T).mono (by omega)) ((g__law_expression (P := P) (w := w) (base := base) T 9).mono (by omega))) fun i h => sd__law_fact i h
theorem g__law_saying (T : Top K mg) (m : Nat) : Good P w K mg base "_law_saying" ["_law_purse_here", "_law_depth", "_law_names"] (12 + m) (sp__law_saying K m) := by
  induction m with
  | zero => exact good_none T.F__law_saying fun vs H Q E ⟨i, hi, _⟩ => Nat.not_lt_zero _ ( hi.2)
  | succ m ih => exact good_of (k := 12 + m) T.F__law_saying sc__law_saying (fun _ => rfl) (p__law_saying (k := 12 + m) ((g__law_next (P := P) (w := w) (base := base) T).mono (by omega)) ((g__law_fact (P := P) (w := w) (base := base) T).mono (by omega)) (ih)) fun i h => sd__law_saying i.1 i.2 h.1 h.2
theorem g__law_grid (T : Top K mg) : Good P w K mg base "_law_grid" ["_law_size_here", "_law_tie"] 1 (sp__law_grid K) :=
  good_of (k := 0) T.F__law_grid sc__law_grid (fun _ => rfl) (p__law_grid (k := 0) T.Z_range) fun i h => sd__law_grid i.1 i.2 h
theorem g__law_named (T : Top K mg) : Good P w K mg base "_law_named" ["_law_words_here", "_law_world_here", "_law_name"] 2 (sp__law_named K) :=
  good_of (k := 1) T.F__law_named sc__law_named (fun _ => rfl) (p__law_named (k := 1) T.Z_range T.Z_int ((g__law_grid (P := P) (w := w) (base := base) T).mono (by omega))) fun i h => sd__law_named i.kn i.tn i.w i.s h.1 h.2
theorem g__law_closed (T : Top K mg) : Good P w K mg base "_law_closed" ["_law_grid_here"] 1 (sp__law_closed K) :=
  good_of (k := 0) T.F__law_closed sc__law_closed (fun _ => rfl) (p__law_closed (k := 0) T.Z_list T.Z_len T.Z_range) fun i h => sd__law_closed i.1 i.2 h
theorem g__law_two (T : Top K mg) : Good P w K mg base "_law_two" ["_law_word", "_law_one", "_law_other"] 1 (sp__law_two K) :=
  good_of (k := 0) T.F__law_two sc__law_two (fun _ => rfl) (p__law_two (k := 0) T.Z_len T.Z_range T.Z_max) fun i h => sd__law_two i.1.1 i.1.2.1 i.1.2.2 i.2 h
theorem g__law_value (T : Top K mg) (m : Nat) : Good P w K mg base "_law_value" ["_law_words_here", "_law_world_here", "_law_expression_here"] (2 + m) (sp__law_value K m) := by
  induction m with
  | zero => exact good_none T.F__law_value fun vs H Q E ⟨i, hi, _⟩ => Nat.not_lt_zero _ ( hi.2.2)
  | succ m ih => exact good_of (k := 2 + m) T.F__law_value sc__law_value (fun _ => rfl) (p__law_value (k := 2 + m) T.Z_len T.Z_range T.Z_int ((g__law_named (P := P) (w := w) (base := base) T).mono (by omega)) (ih) ((g__law_closed (P := P) (w := w) (base := base) T).mono (by omega)) ((g__law_two (P := P) (w := w) (base := base) T).mono (by omega))) fun i h => sd__law_value i.1 i.2 h.1 h.2.1 h.2.2
theorem g__law_counts (T : Top K mg) : Good P w K mg base "_law_counts" ["_law_grid_here"] 1 (sp__law_counts K) :=
  good_of (k := 0) T.F__law_counts sc__law_counts (fun _ => rfl) (p__law_counts (k := 0) T.Z_sum) fun i h => sd__law_counts i.1 i.2 h
theorem g__law_fact_kept (T : Top K mg) : Good P w K mg base "_law_fact_kept" ["_law_words_here", "_law_world_here", "_law_saying_here"] 12 (sp__law_fact_kept K) :=
  good_of (k := 11) T.F__law_fact_kept sc__law_fact_kept (fun _ => rfl) (p__law_fact_kept (k := 11) T.Z_sum T.Z_all ((g__law_value (P := P) (w := w) (base := base) T 9).mono (by omega)) ((g__law_two (P := P) (w := w) (base := base) T).mono (by omega)) ((g__law_counts (P := P) (w := w) (base := base) T).mono (by omega))) fun i h => sd__law_fact_kept i.1 i.2 h.1 h.2.1 h.2.2
theorem g__law_kept (T : Top K mg) (m : Nat) : Good P w K mg base "_law_kept" ["_law_words_here", "_law_world_here", "_law_saying_here"] (12 + m) (sp__law_kept K m) := by
  induction m with
  | zero => exact good_none T.F__law_kept fun vs H Q E ⟨i, hi, _⟩ => Nat.not_lt_zero _ ( hi.2.2)
  | succ m ih => exact good_of (k := 12 + m) T.F__law_kept sc__law_kept (fun _ => rfl) (p__law_kept (k := 12 + m) (ih) ((g__law_fact_kept (P := P) (w := w) (base := base) T).mono (by omega))) fun i h => sd__law_kept i.1 i.2 h.1 h.2.1 h.2.2
theorem g__law_spots (T : Top K mg) : Good P w K mg base "_law_spots" ["_law_words_here", "_law_size_here"] 1 (sp__law_spots K) :=
  good_of (k := 0) T.F__law_spots sc__law_spots (fun _ => rfl) (p__law_spots (k := 0) T.Z_len T.Z_range) fun i h => sd__law_spots i.1 i.2.1 i.2.2 h.1 h.2.1 h.2.2
theorem g__law_bit_put (T : Top K mg) : Good P w K mg base "_law_bit_put" ["_law_world_here", "_law_spot", "_law_truth"] 1 (sp__law_bit_put K) :=
  good_of (k := 0) T.F__law_bit_put sc__law_bit_put (fun _ => rfl) (p__law_bit_put (k := 0) T.Z_list T.Z_int T.Z_tuple) fun i h => sd__law_bit_put i.1 i.2.1 i.2.2 h.1 h.2.2.2
theorem g__law_picked (T : Top K mg) : Good P w K mg base "_law_picked" ["_law_spots_here", "_law_purse_here", "_law_many"] 2 (sp__law_picked K) :=
  good_of (k := 1) T.F__law_picked sc__law_picked (fun _ => rfl) (p__law_picked (k := 1) T.Z_range T.Z_len ((g__law_next (P := P) (w := w) (base := base) T).mono (by omega))) fun i h => sd__law_picked i.1 i.2 h.1 h.2
theorem g__law_between (T : Top K mg) : Good P w K mg base "_law_between" ["_law_world_here", "_law_some"] 2 (sp__law_between K) :=
  good_of (k := 1) T.F__law_between sc__law_between (fun _ => rfl) (p__law_between (k := 1) ((g__law_bit_put (P := P) (w := w) (base := base) T).mono (by omega))) fun i h => sd__law_between i.1 i.2 h.1 h.2.1 h.2.2.1 h.2.2.2.1 h.2.2.2.2
theorem g__law_number (T : Top K mg) : Good P w K mg base "_law_number" ["_law_grid_here"] 1 (sp__law_number K) :=
  good_of (k := 0) T.F__law_number sc__law_number (fun _ => rfl) (p__law_number (k := 0) T.Z_len T.Z_range T.Z_sum) fun i h => sd__law_number i.1 i.2 h
theorem g__law_so (T : Top K mg) : Good P w K mg base "_law_so" ["_law_words_here", "_law_part", "_law_worlds", "_law_saying_here", "_law_expression_here"] 23 (sp__law_so K) :=
  good_of (k := 22) T.F__law_so sc__law_so (fun _ => rfl) (p__law_so (k := 22) ((g_told (P := P) (w := w) (base := base) T 9).mono (by omega)) ((g_bounds (P := P) (w := w) (base := base) T 9).mono (by omega)) ((g__law_kept (P := P) (w := w) (base := base) T 9).mono (by omega)) ((g__law_value (P := P) (w := w) (base := base) T 9).mono (by omega)) ((g__law_number (P := P) (w := w) (base := base) T).mono (by omega))) fun i h => sd__law_so i h.1 h.2.1 h.2.2.1 h.2.2.2.1 h.2.2.2.2.1 h.2.2.2.2.2
theorem g__law_light (T : Top K mg) : Good P w K mg base "_law_light" ["_law_purse_here", "_law_names", "_law_one"] 3 (sp__law_light K) :=
  good_of (k := 2) T.F__law_light sc__law_light (fun _ => rfl) (p__law_light (k := 2) ((g__law_leaf (P := P) (w := w) (base := base) T).mono (by omega)) ((g__law_next (P := P) (w := w) (base := base) T).mono (by omega))) fun i h => sd__law_light i.1 i.2 h.1 h.2.1 h.2.2
theorem g_law (T : Top K mg) {f : Addr} {fd : FuncData} (F : Fun K "law" "law" s_law f fd) : FnOk P w K mg base CX0 24 f fd ["_law_script"] (sp_law K) :=
  fnok_of (k := 23) F sc_law (fun _ => rfl) (p_law (k := 23) T.Z_len T.Z_min T.Z_max T.Z_range T.Z_int ((g__law_words (P := P) (w := w) (base := base) T).mono (by omega)) ((g__law_purse (P := P) (w := w) (base := base) T).mono (by omega)) ((g__law_size (P := P) (w := w) (base := base) T).mono (by omega)) ((g__law_world (P := P) (w := w) (base := base) T).mono (by omega)) ((g__law_spots (P := P) (w := w) (base := base) T).mono (by omega)) ((g__law_next (P := P) (w := w) (base := base) T).mono (by omega)) ((g__law_picked (P := P) (w := w) (base := base) T).mono (by omega)) ((g__law_expression (P := P) (w := w) (base := base) T 9).mono (by omega)) ((g__law_light (P := P) (w := w) (base := base) T).mono (by omega)) ((g__law_saying (P := P) (w := w) (base := base) T 9).mono (by omega)) ((g__law_between (P := P) (w := w) (base := base) T).mono (by omega)) ((g__law_so (P := P) (w := w) (base := base) T).mono (by omega))) fun i h => sd_law i h
abbrev HasAt {h : Heap} (_ : K.In h) (mg : Str → Option Value) (x : Str) (st : Stmt) (ps : List Str) : Prop := Has K mg x st ps
abbrev TopAt {h : Heap} (_ : K.In h) (mg : Str → Option Value) : Prop := Top K mg
theorem has_is_within {h : Heap} (X : K.In h) (G : h.Ns mainGlobals mg) {f : Addr} {od an : Option Addr} {sl : Array (Option Value)} {oc kV dc pm cd ct : Value}
    (a : PySem.W.nsIn K mainGlobals "is_within" = some (some (.ref f))) (l : K.lookup f = some ⟨oc, od, .func (PySem.W.fnOf "is_within" "is_within" (defArgs s_is_within) (defBody s_is_within) (defScope s_is_within) .none kV dc pm an cd ct), sl⟩) (c : PySem.W.codeIn K cd "is_within" = true) (k : PySem.W.keepIn K (.ref f) = true) : Has K mg "is_within" s_is_within ["size", "thing"] :=
  ⟨f, _, fun_mk l c k, (fun_mk l c k).binds (ps := ["size", "thing"]) fun _ _ _ _ _ _ us hl => match us, hl with | [_, _], _ => rfl, PySem.W.mg_of X G a⟩
theorem has_row_of {h : Heap} (X : K.In h) (G : h.Ns mainGlobals mg) {f : Addr} {od an : Option Addr} {sl : Array (Option Value)} {oc kV dc pm cd ct : Value}
    (a : PySem.W.nsIn K mainGlobals "row_of" = some (some (.ref f))) (l : K.lookup f = some ⟨oc, od, .func (PySem.W.fnOf "row_of" "row_of" (defArgs s_row_of) (defBody s_row_of) (defScope s_row_of) .none kV dc pm an cd ct), sl⟩) (c : PySem.W.codeIn K cd "row_of" = true) (k : PySem.W.keepIn K (.ref f) = true) : Has K mg "row_of" s_row_of ["size", "tie", "a"] :=
  ⟨f, _, fun_mk l c k, (fun_mk l c k).binds (ps := ["size", "tie", "a"]) fun _ _ _ _ _ _ us hl => match us, hl with | [_, _, _], _ => rfl, PySem.W.mg_of X G a⟩
theorem has_pairs_of {h : Heap} (X : K.In h) (G : h.Ns mainGlobals mg) {f : Addr} {od an : Option Addr} {sl : Array (Option Value)} {oc kV dc pm cd ct : Value}
    (a : PySem.W.nsIn K mainGlobals "pairs_of" = some (some (.ref f))) (l : K.lookup f = some ⟨oc, od, .func (PySem.W.fnOf "pairs_of" "pairs_of" (defArgs s_pairs_of) (defBody s_pairs_of) (defScope s_pairs_of) .none kV dc pm an cd ct), sl⟩) (c : PySem.W.codeIn K cd "pairs_of" = true) (k : PySem.W.keepIn K (.ref f) = true) : Has K mg "pairs_of" s_pairs_of ["size", "tie"] :=
  ⟨f, _, fun_mk l c k, (fun_mk l c k).binds (ps := ["size", "tie"]) fun _ _ _ _ _ _ us hl => match us, hl with | [_, _], _ => rfl, PySem.W.mg_of X G a⟩
theorem has_tie_of {h : Heap} (X : K.In h) (G : h.Ns mainGlobals mg) {f : Addr} {od an : Option Addr} {sl : Array (Option Value)} {oc kV dc pm cd ct : Value}
    (a : PySem.W.nsIn K mainGlobals "tie_of" = some (some (.ref f))) (l : K.lookup f = some ⟨oc, od, .func (PySem.W.fnOf "tie_of" "tie_of" (defArgs s_tie_of) (defBody s_tie_of) (defScope s_tie_of) .none kV dc pm an cd ct), sl⟩) (c : PySem.W.codeIn K cd "tie_of" = true) (k : PySem.W.keepIn K (.ref f) = true) : Has K mg "tie_of" s_tie_of ["size", "pairs"] :=
  ⟨f, _, fun_mk l c k, (fun_mk l c k).binds (ps := ["size", "pairs"]) fun _ _ _ _ _ _ us hl => match us, hl with | [_, _], _ => rfl, PySem.W.mg_of X G a⟩
theorem has_common {h : Heap} (X : K.In h) (G : h.Ns mainGlobals mg) {f : Addr} {od an : Option Addr} {sl : Array (Option Value)} {oc kV dc pm cd ct : Value}
    (a : PySem.W.nsIn K mainGlobals "common" = some (some (.ref f))) (l : K.lookup f = some ⟨oc, od, .func (PySem.W.fnOf "common" "common" (defArgs s_common) (defBody s_common) (defScope s_common) .none kV dc pm an cd ct), sl⟩) (c : PySem.W.codeIn K cd "common" = true) (k : PySem.W.keepIn K (.ref f) = true) : Has K mg "common" s_common ["one", "other"] :=
  ⟨f, _, fun_mk l c k, (fun_mk l c k).binds (ps := ["one", "other"]) fun _ _ _ _ _ _ us hl => match us, hl with | [_, _], _ => rfl, PySem.W.mg_of X G a⟩
theorem has_either {h : Heap} (X : K.In h) (G : h.Ns mainGlobals mg) {f : Addr} {od an : Option Addr} {sl : Array (Option Value)} {oc kV dc pm cd ct : Value}
    (a : PySem.W.nsIn K mainGlobals "either" = some (some (.ref f))) (l : K.lookup f = some ⟨oc, od, .func (PySem.W.fnOf "either" "either" (defArgs s_either) (defBody s_either) (defScope s_either) .none kV dc pm an cd ct), sl⟩) (c : PySem.W.codeIn K cd "either" = true) (k : PySem.W.keepIn K (.ref f) = true) : Has K mg "either" s_either ["one", "other"] :=
  ⟨f, _, fun_mk l c k, (fun_mk l c k).binds (ps := ["one", "other"]) fun _ _ _ _ _ _ us hl => match us, hl with | [_, _], _ => rfl, PySem.W.mg_of X G a⟩
theorem has_without {h : Heap} (X : K.In h) (G : h.Ns mainGlobals mg) {f : Addr} {od an : Option Addr} {sl : Array (Option Value)} {oc kV dc pm cd ct : Value}
    (a : PySem.W.nsIn K mainGlobals "without" = some (some (.ref f))) (l : K.lookup f = some ⟨oc, od, .func (PySem.W.fnOf "without" "without" (defArgs s_without) (defBody s_without) (defScope s_without) .none kV dc pm an cd ct), sl⟩) (c : PySem.W.codeIn K cd "without" = true) (k : PySem.W.keepIn K (.ref f) = true) : Has K mg "without" s_without ["one", "other"] :=
  ⟨f, _, fun_mk l c k, (fun_mk l c k).binds (ps := ["one", "other"]) fun _ _ _ _ _ _ us hl => match us, hl with | [_, _], _ => rfl, PySem.W.mg_of X G a⟩
theorem has_turned {h : Heap} (X : K.In h) (G : h.Ns mainGlobals mg) {f : Addr} {od an : Option Addr} {sl : Array (Option Value)} {oc kV dc pm cd ct : Value}
    (a : PySem.W.nsIn K mainGlobals "turned" = some (some (.ref f))) (l : K.lookup f = some ⟨oc, od, .func (PySem.W.fnOf "turned" "turned" (defArgs s_turned) (defBody s_turned) (defScope s_turned) .none kV dc pm an cd ct), sl⟩) (c : PySem.W.codeIn K cd "turned" = true) (k : PySem.W.keepIn K (.ref f) = true) : Has K mg "turned" s_turned ["size", "tie"] :=
  ⟨f, _, fun_mk l c k, (fun_mk l c k).binds (ps := ["size", "tie"]) fun _ _ _ _ _ _ us hl => match us, hl with | [_, _], _ => rfl, PySem.W.mg_of X G a⟩
theorem has_joined {h : Heap} (X : K.In h) (G : h.Ns mainGlobals mg) {f : Addr} {od an : Option Addr} {sl : Array (Option Value)} {oc kV dc pm cd ct : Value}
    (a : PySem.W.nsIn K mainGlobals "joined" = some (some (.ref f))) (l : K.lookup f = some ⟨oc, od, .func (PySem.W.fnOf "joined" "joined" (defArgs s_joined) (defBody s_joined) (defScope s_joined) .none kV dc pm an cd ct), sl⟩) (c : PySem.W.codeIn K cd "joined" = true) (k : PySem.W.keepIn K (.ref f) = true) : Has K mg "joined" s_joined ["size", "one", "other"] :=
  ⟨f, _, fun_mk l c k, (fun_mk l c k).binds (ps := ["size", "one", "other"]) fun _ _ _ _ _ _ us hl => match us, hl with | [_, _, _], _ => rfl, PySem.W.mg_of X G a⟩
theorem has_closed {h : Heap} (X : K.In h) (G : h.Ns mainGlobals mg) {f : Addr} {od an : Option Addr} {sl : Array (Option Value)} {oc kV dc pm cd ct : Value}
    (a : PySem.W.nsIn K mainGlobals "closed" = some (some (.ref f))) (l : K.lookup f = some ⟨oc, od, .func (PySem.W.fnOf "closed" "closed" (defArgs s_closed) (defBody s_closed) (defScope s_closed) .none kV dc pm an cd ct), sl⟩) (c : PySem.W.codeIn K cd "closed" = true) (k : PySem.W.keepIn K (.ref f) = true) : Has K mg "closed" s_closed ["size", "tie"] :=
  ⟨f, _, fun_mk l c k, (fun_mk l c k).binds (ps := ["size", "tie"]) fun _ _ _ _ _ _ us hl => match us, hl with | [_, _], _ => rfl, PySem.W.mg_of X G a⟩
theorem has_same {h : Heap} (X : K.In h) (G : h.Ns mainGlobals mg) {f : Addr} {od an : Option Addr} {sl : Array (Option Value)} {oc kV dc pm cd ct : Value}
    (a : PySem.W.nsIn K mainGlobals "same" = some (some (.ref f))) (l : K.lookup f = some ⟨oc, od, .func (PySem.W.fnOf "same" "same" (defArgs s_same) (defBody s_same) (defScope s_same) .none kV dc pm an cd ct), sl⟩) (c : PySem.W.codeIn K cd "same" = true) (k : PySem.W.keepIn K (.ref f) = true) : Has K mg "same" s_same ["size"] :=
  ⟨f, _, fun_mk l c k, (fun_mk l c k).binds (ps := ["size"]) fun _ _ _ _ _ _ us hl => match us, hl with | [_], _ => rfl, PySem.W.mg_of X G a⟩
theorem has_every {h : Heap} (X : K.In h) (G : h.Ns mainGlobals mg) {f : Addr} {od an : Option Addr} {sl : Array (Option Value)} {oc kV dc pm cd ct : Value}
    (a : PySem.W.nsIn K mainGlobals "every" = some (some (.ref f))) (l : K.lookup f = some ⟨oc, od, .func (PySem.W.fnOf "every" "every" (defArgs s_every) (defBody s_every) (defScope s_every) .none kV dc pm an cd ct), sl⟩) (c : PySem.W.codeIn K cd "every" = true) (k : PySem.W.keepIn K (.ref f) = true) : Has K mg "every" s_every ["size"] :=
  ⟨f, _, fun_mk l c k, (fun_mk l c k).binds (ps := ["size"]) fun _ _ _ _ _ _ us hl => match us, hl with | [_], _ => rfl, PySem.W.mg_of X G a⟩
theorem has_kind_tie {h : Heap} (X : K.In h) (G : h.Ns mainGlobals mg) {f : Addr} {od an : Option Addr} {sl : Array (Option Value)} {oc kV dc pm cd ct : Value}
    (a : PySem.W.nsIn K mainGlobals "kind_tie" = some (some (.ref f))) (l : K.lookup f = some ⟨oc, od, .func (PySem.W.fnOf "kind_tie" "kind_tie" (defArgs s_kind_tie) (defBody s_kind_tie) (defScope s_kind_tie) .none kV dc pm an cd ct), sl⟩) (c : PySem.W.codeIn K cd "kind_tie" = true) (k : PySem.W.keepIn K (.ref f) = true) : Has K mg "kind_tie" s_kind_tie ["size", "kind"] :=
  ⟨f, _, fun_mk l c k, (fun_mk l c k).binds (ps := ["size", "kind"]) fun _ _ _ _ _ _ us hl => match us, hl with | [_, _], _ => rfl, PySem.W.mg_of X G a⟩
theorem has_named {h : Heap} (X : K.In h) (G : h.Ns mainGlobals mg) {f : Addr} {od an : Option Addr} {sl : Array (Option Value)} {oc kV dc pm cd ct : Value}
    (a : PySem.W.nsIn K mainGlobals "named" = some (some (.ref f))) (l : K.lookup f = some ⟨oc, od, .func (PySem.W.fnOf "named" "named" (defArgs s_named) (defBody s_named) (defScope s_named) .none kV dc pm an cd ct), sl⟩) (c : PySem.W.codeIn K cd "named" = true) (k : PySem.W.keepIn K (.ref f) = true) : Has K mg "named" s_named ["words", "world", "name"] :=
  ⟨f, _, fun_mk l c k, (fun_mk l c k).binds (ps := ["words", "world", "name"]) fun _ _ _ _ _ _ us hl => match us, hl with | [_, _, _], _ => rfl, PySem.W.mg_of X G a⟩
theorem has_made {h : Heap} (X : K.In h) (G : h.Ns mainGlobals mg) {f : Addr} {od an : Option Addr} {sl : Array (Option Value)} {oc kV dc pm cd ct : Value}
    (a : PySem.W.nsIn K mainGlobals "made" = some (some (.ref f))) (l : K.lookup f = some ⟨oc, od, .func (PySem.W.fnOf "made" "made" (defArgs s_made) (defBody s_made) (defScope s_made) .none kV dc pm an cd ct), sl⟩) (c : PySem.W.codeIn K cd "made" = true) (k : PySem.W.keepIn K (.ref f) = true) : Has K mg "made" s_made ["size", "word", "parts"] :=
  ⟨f, _, fun_mk l c k, (fun_mk l c k).binds (ps := ["size", "word", "parts"]) fun _ _ _ _ _ _ us hl => match us, hl with | [_, _, _], _ => rfl, PySem.W.mg_of X G a⟩
theorem has_tied_numbers {h : Heap} (X : K.In h) (G : h.Ns mainGlobals mg) {f : Addr} {od an : Option Addr} {sl : Array (Option Value)} {oc kV dc pm cd ct : Value}
    (a : PySem.W.nsIn K mainGlobals "tied_numbers" = some (some (.ref f))) (l : K.lookup f = some ⟨oc, od, .func (PySem.W.fnOf "tied_numbers" "tied_numbers" (defArgs s_tied_numbers) (defBody s_tied_numbers) (defScope s_tied_numbers) .none kV dc pm an cd ct), sl⟩) (c : PySem.W.codeIn K cd "tied_numbers" = true) (k : PySem.W.keepIn K (.ref f) = true) : Has K mg "tied_numbers" s_tied_numbers ["size", "tie"] :=
  ⟨f, _, fun_mk l c k, (fun_mk l c k).binds (ps := ["size", "tie"]) fun _ _ _ _ _ _ us hl => match us, hl with | [_, _], _ => rfl, PySem.W.mg_of X G a⟩
theorem has_bounds {h : Heap} (X : K.In h) (G : h.Ns mainGlobals mg) {f : Addr} {od an : Option Addr} {sl : Array (Option Value)} {oc kV dc pm cd ct : Value}
    (a : PySem.W.nsIn K mainGlobals "bounds" = some (some (.ref f))) (l : K.lookup f = some ⟨oc, od, .func (PySem.W.fnOf "bounds" "bounds" (defArgs s_bounds) (defBody s_bounds) (defScope s_bounds) .none kV dc pm an cd ct), sl⟩) (c : PySem.W.codeIn K cd "bounds" = true) (k : PySem.W.keepIn K (.ref f) = true) : Has K mg "bounds" s_bounds ["words", "part", "expression"] :=
  ⟨f, _, fun_mk l c k, (fun_mk l c k).binds (ps := ["words", "part", "expression"]) fun _ _ _ _ _ _ us hl => match us, hl with | [_, _, _], _ => rfl, PySem.W.mg_of X G a⟩
theorem has_told_in {h : Heap} (X : K.In h) (G : h.Ns mainGlobals mg) {f : Addr} {od an : Option Addr} {sl : Array (Option Value)} {oc kV dc pm cd ct : Value}
    (a : PySem.W.nsIn K mainGlobals "told_in" = some (some (.ref f))) (l : K.lookup f = some ⟨oc, od, .func (PySem.W.fnOf "told_in" "told_in" (defArgs s_told_in) (defBody s_told_in) (defScope s_told_in) .none kV dc pm an cd ct), sl⟩) (c : PySem.W.codeIn K cd "told_in" = true) (k : PySem.W.keepIn K (.ref f) = true) : Has K mg "told_in" s_told_in ["one", "other"] :=
  ⟨f, _, fun_mk l c k, (fun_mk l c k).binds (ps := ["one", "other"]) fun _ _ _ _ _ _ us hl => match us, hl with | [_, _], _ => rfl, PySem.W.mg_of X G a⟩
theorem has_told_both {h : Heap} (X : K.In h) (G : h.Ns mainGlobals mg) {f : Addr} {od an : Option Addr} {sl : Array (Option Value)} {oc kV dc pm cd ct : Value}
    (a : PySem.W.nsIn K mainGlobals "told_both" = some (some (.ref f))) (l : K.lookup f = some ⟨oc, od, .func (PySem.W.fnOf "told_both" "told_both" (defArgs s_told_both) (defBody s_told_both) (defScope s_told_both) .none kV dc pm an cd ct), sl⟩) (c : PySem.W.codeIn K cd "told_both" = true) (k : PySem.W.keepIn K (.ref f) = true) : Has K mg "told_both" s_told_both ["one", "other"] :=
  ⟨f, _, fun_mk l c k, (fun_mk l c k).binds (ps := ["one", "other"]) fun _ _ _ _ _ _ us hl => match us, hl with | [_, _], _ => rfl, PySem.W.mg_of X G a⟩
theorem has_told_not {h : Heap} (X : K.In h) (G : h.Ns mainGlobals mg) {f : Addr} {od an : Option Addr} {sl : Array (Option Value)} {oc kV dc pm cd ct : Value}
    (a : PySem.W.nsIn K mainGlobals "told_not" = some (some (.ref f))) (l : K.lookup f = some ⟨oc, od, .func (PySem.W.fnOf "told_not" "told_not" (defArgs s_told_not) (defBody s_told_not) (defScope s_told_not) .none kV dc pm an cd ct), sl⟩) (c : PySem.W.codeIn K cd "told_not" = true) (k : PySem.W.keepIn K (.ref f) = true) : Has K mg "told_not" s_told_not ["one"] :=
  ⟨f, _, fun_mk l c k, (fun_mk l c k).binds (ps := ["one"]) fun _ _ _ _ _ _ us hl => match us, hl with | [_], _ => rfl, PySem.W.mg_of X G a⟩
theorem has_told_least {h : Heap} (X : K.In h) (G : h.Ns mainGlobals mg) {f : Addr} {od an : Option Addr} {sl : Array (Option Value)} {oc kV dc pm cd ct : Value}
    (a : PySem.W.nsIn K mainGlobals "told_least" = some (some (.ref f))) (l : K.lookup f = some ⟨oc, od, .func (PySem.W.fnOf "told_least" "told_least" (defArgs s_told_least) (defBody s_told_least) (defScope s_told_least) .none kV dc pm an cd ct), sl⟩) (c : PySem.W.codeIn K cd "told_least" = true) (k : PySem.W.keepIn K (.ref f) = true) : Has K mg "told_least" s_told_least ["low", "high", "number"] :=
  ⟨f, _, fun_mk l c k, (fun_mk l c k).binds (ps := ["low", "high", "number"]) fun _ _ _ _ _ _ us hl => match us, hl with | [_, _, _], _ => rfl, PySem.W.mg_of X G a⟩
theorem has_told_most {h : Heap} (X : K.In h) (G : h.Ns mainGlobals mg) {f : Addr} {od an : Option Addr} {sl : Array (Option Value)} {oc kV dc pm cd ct : Value}
    (a : PySem.W.nsIn K mainGlobals "told_most" = some (some (.ref f))) (l : K.lookup f = some ⟨oc, od, .func (PySem.W.fnOf "told_most" "told_most" (defArgs s_told_most) (defBody s_told_most) (defScope s_told_most) .none kV dc pm an cd ct), sl⟩) (c : PySem.W.codeIn K cd "told_most" = true) (k : PySem.W.keepIn K (.ref f) = true) : Has K mg "told_most" s_told_most ["low", "high", "number"] :=
  ⟨f, _, fun_mk l c k, (fun_mk l c k).binds (ps := ["low", "high", "number"]) fun _ _ _ _ _ _ us hl => match us, hl with | [_, _, _], _ => rfl, PySem.W.mg_of X G a⟩
theorem has_told_fact {h : Heap} (X : K.In h) (G : h.Ns mainGlobals mg) {f : Addr} {od an : Option Addr} {sl : Array (Option Value)} {oc kV dc pm cd ct : Value}
    (a : PySem.W.nsIn K mainGlobals "told_fact" = some (some (.ref f))) (l : K.lookup f = some ⟨oc, od, .func (PySem.W.fnOf "told_fact" "told_fact" (defArgs s_told_fact) (defBody s_told_fact) (defScope s_told_fact) .none kV dc pm an cd ct), sl⟩) (c : PySem.W.codeIn K cd "told_fact" = true) (k : PySem.W.keepIn K (.ref f) = true) : Has K mg "told_fact" s_told_fact ["size", "saying", "parts"] :=
  ⟨f, _, fun_mk l c k, (fun_mk l c k).binds (ps := ["size", "saying", "parts"]) fun _ _ _ _ _ _ us hl => match us, hl with | [_, _, _], _ => rfl, PySem.W.mg_of X G a⟩
theorem has_told {h : Heap} (X : K.In h) (G : h.Ns mainGlobals mg) {f : Addr} {od an : Option Addr} {sl : Array (Option Value)} {oc kV dc pm cd ct : Value}
    (a : PySem.W.nsIn K mainGlobals "told" = some (some (.ref f))) (l : K.lookup f = some ⟨oc, od, .func (PySem.W.fnOf "told" "told" (defArgs s_told) (defBody s_told) (defScope s_told) .none kV dc pm an cd ct), sl⟩) (c : PySem.W.codeIn K cd "told" = true) (k : PySem.W.keepIn K (.ref f) = true) : Has K mg "told" s_told ["words", "part", "saying"] :=
  ⟨f, _, fun_mk l c k, (fun_mk l c k).binds (ps := ["words", "part", "saying"]) fun _ _ _ _ _ _ us hl => match us, hl with | [_, _, _], _ => rfl, PySem.W.mg_of X G a⟩
theorem has__law_cell {h : Heap} (X : K.In h) (G : h.Ns mainGlobals mg) {f : Addr} {od an : Option Addr} {sl : Array (Option Value)} {oc kV dc pm cd ct : Value}
    (a : PySem.W.nsIn K mainGlobals "_law_cell" = some (some (.ref f))) (l : K.lookup f = some ⟨oc, od, .func (PySem.W.fnOf "_law_cell" "_law_cell" (defArgs s__law_cell) (defBody s__law_cell) (defScope s__law_cell) .none kV dc pm an cd ct), sl⟩) (c : PySem.W.codeIn K cd "_law_cell" = true) (k : PySem.W.keepIn K (.ref f) = true) : Has K mg "_law_cell" s__law_cell ["_law_script", "_law_k"] :=
  ⟨f, _, fun_mk l c k, (fun_mk l c k).binds (ps := ["_law_script", "_law_k"]) fun _ _ _ _ _ _ us hl => match us, hl with | [_, _], _ => rfl, PySem.W.mg_of X G a⟩
theorem has__law_purse {h : Heap} (X : K.In h) (G : h.Ns mainGlobals mg) {f : Addr} {od an : Option Addr} {sl : Array (Option Value)} {oc kV dc pm cd ct : Value}
    (a : PySem.W.nsIn K mainGlobals "_law_purse" = some (some (.ref f))) (l : K.lookup f = some ⟨oc, od, .func (PySem.W.fnOf "_law_purse" "_law_purse" (defArgs s__law_purse) (defBody s__law_purse) (defScope s__law_purse) .none kV dc pm an cd ct), sl⟩) (c : PySem.W.codeIn K cd "_law_purse" = true) (k : PySem.W.keepIn K (.ref f) = true) : Has K mg "_law_purse" s__law_purse ["_law_script", "_law_k"] :=
  ⟨f, _, fun_mk l c k, (fun_mk l c k).binds (ps := ["_law_script", "_law_k"]) fun _ _ _ _ _ _ us hl => match us, hl with | [_, _], _ => rfl, PySem.W.mg_of X G a⟩
theorem has__law_next {h : Heap} (X : K.In h) (G : h.Ns mainGlobals mg) {f : Addr} {od an : Option Addr} {sl : Array (Option Value)} {oc kV dc pm cd ct : Value}
    (a : PySem.W.nsIn K mainGlobals "_law_next" = some (some (.ref f))) (l : K.lookup f = some ⟨oc, od, .func (PySem.W.fnOf "_law_next" "_law_next" (defArgs s__law_next) (defBody s__law_next) (defScope s__law_next) .none kV dc pm an cd ct), sl⟩) (c : PySem.W.codeIn K cd "_law_next" = true) (k : PySem.W.keepIn K (.ref f) = true) : Has K mg "_law_next" s__law_next ["_law_purse_here", "_law_many"] :=
  ⟨f, _, fun_mk l c k, (fun_mk l c k).binds (ps := ["_law_purse_here", "_law_many"]) fun _ _ _ _ _ _ us hl => match us, hl with | [_, _], _ => rfl, PySem.W.mg_of X G a⟩
theorem has__law_family {h : Heap} (X : K.In h) (G : h.Ns mainGlobals mg) {f : Addr} {od an : Option Addr} {sl : Array (Option Value)} {oc kV dc pm cd ct : Value}
    (a : PySem.W.nsIn K mainGlobals "_law_family" = some (some (.ref f))) (l : K.lookup f = some ⟨oc, od, .func (PySem.W.fnOf "_law_family" "_law_family" (defArgs s__law_family) (defBody s__law_family) (defScope s__law_family) .none kV dc pm an cd ct), sl⟩) (c : PySem.W.codeIn K cd "_law_family" = true) (k : PySem.W.keepIn K (.ref f) = true) : Has K mg "_law_family" s__law_family ["_law_cell_here", "_law_many"] :=
  ⟨f, _, fun_mk l c k, (fun_mk l c k).binds (ps := ["_law_cell_here", "_law_many"]) fun _ _ _ _ _ _ us hl => match us, hl with | [_, _], _ => rfl, PySem.W.mg_of X G a⟩
theorem has__law_any_names {h : Heap} (X : K.In h) (G : h.Ns mainGlobals mg) {f : Addr} {od an : Option Addr} {sl : Array (Option Value)} {oc kV dc pm cd ct : Value}
    (a : PySem.W.nsIn K mainGlobals "_law_any_names" = some (some (.ref f))) (l : K.lookup f = some ⟨oc, od, .func (PySem.W.fnOf "_law_any_names" "_law_any_names" (defArgs s__law_any_names) (defBody s__law_any_names) (defScope s__law_any_names) .none kV dc pm an cd ct), sl⟩) (c : PySem.W.codeIn K cd "_law_any_names" = true) (k : PySem.W.keepIn K (.ref f) = true) : Has K mg "_law_any_names" s__law_any_names ["_law_script", "_law_kinds", "_law_ties"] :=
  ⟨f, _, fun_mk l c k, (fun_mk l c k).binds (ps := ["_law_script", "_law_kinds", "_law_ties"]) fun _ _ _ _ _ _ us hl => match us, hl with | [_, _, _], _ => rfl, PySem.W.mg_of X G a⟩
theorem has__law_words {h : Heap} (X : K.In h) (G : h.Ns mainGlobals mg) {f : Addr} {od an : Option Addr} {sl : Array (Option Value)} {oc kV dc pm cd ct : Value}
    (a : PySem.W.nsIn K mainGlobals "_law_words" = some (some (.ref f))) (l : K.lookup f = some ⟨oc, od, .func (PySem.W.fnOf "_law_words" "_law_words" (defArgs s__law_words) (defBody s__law_words) (defScope s__law_words) .none kV dc pm an cd ct), sl⟩) (c : PySem.W.codeIn K cd "_law_words" = true) (k : PySem.W.keepIn K (.ref f) = true) : Has K mg "_law_words" s__law_words ["_law_script"] :=
  ⟨f, _, fun_mk l c k, (fun_mk l c k).binds (ps := ["_law_script"]) fun _ _ _ _ _ _ us hl => match us, hl with | [_], _ => rfl, PySem.W.mg_of X G a⟩
theorem has__law_size {h : Heap} (X : K.In h) (G : h.Ns mainGlobals mg) {f : Addr} {od an : Option Addr} {sl : Array (Option Value)} {oc kV dc pm cd ct : Value}
    (a : PySem.W.nsIn K mainGlobals "_law_size" = some (some (.ref f))) (l : K.lookup f = some ⟨oc, od, .func (PySem.W.fnOf "_law_size" "_law_size" (defArgs s__law_size) (defBody s__law_size) (defScope s__law_size) .none kV dc pm an cd ct), sl⟩) (c : PySem.W.codeIn K cd "_law_size" = true) (k : PySem.W.keepIn K (.ref f) = true) : Has K mg "_law_size" s__law_size ["_law_purse_here"] :=
  ⟨f, _, fun_mk l c k, (fun_mk l c k).binds (ps := ["_law_purse_here"]) fun _ _ _ _ _ _ us hl => match us, hl with | [_], _ => rfl, PySem.W.mg_of X G a⟩
theorem has__law_world {h : Heap} (X : K.In h) (G : h.Ns mainGlobals mg) {f : Addr} {od an : Option Addr} {sl : Array (Option Value)} {oc kV dc pm cd ct : Value}
    (a : PySem.W.nsIn K mainGlobals "_law_world" = some (some (.ref f))) (l : K.lookup f = some ⟨oc, od, .func (PySem.W.fnOf "_law_world" "_law_world" (defArgs s__law_world) (defBody s__law_world) (defScope s__law_world) .none kV dc pm an cd ct), sl⟩) (c : PySem.W.codeIn K cd "_law_world" = true) (k : PySem.W.keepIn K (.ref f) = true) : Has K mg "_law_world" s__law_world ["_law_words_here", "_law_size_here", "_law_purse_here"] :=
  ⟨f, _, fun_mk l c k, (fun_mk l c k).binds (ps := ["_law_words_here", "_law_size_here", "_law_purse_here"]) fun _ _ _ _ _ _ us hl => match us, hl with | [_, _, _], _ => rfl, PySem.W.mg_of X G a⟩
theorem has__law_leaf {h : Heap} (X : K.In h) (G : h.Ns mainGlobals mg) {f : Addr} {od an : Option Addr} {sl : Array (Option Value)} {oc kV dc pm cd ct : Value}
    (a : PySem.W.nsIn K mainGlobals "_law_leaf" = some (some (.ref f))) (l : K.lookup f = some ⟨oc, od, .func (PySem.W.fnOf "_law_leaf" "_law_leaf" (defArgs s__law_leaf) (defBody s__law_leaf) (defScope s__law_leaf) .none kV dc pm an cd ct), sl⟩) (c : PySem.W.codeIn K cd "_law_leaf" = true) (k : PySem.W.keepIn K (.ref f) = true) : Has K mg "_law_leaf" s__law_leaf ["_law_purse_here", "_law_names"] :=
  ⟨f, _, fun_mk l c k, (fun_mk l c k).binds (ps := ["_law_purse_here", "_law_names"]) fun _ _ _ _ _ _ us hl => match us, hl with | [_, _], _ => rfl, PySem.W.mg_of X G a⟩
theorem has__law_expression {h : Heap} (X : K.In h) (G : h.Ns mainGlobals mg) {f : Addr} {od an : Option Addr} {sl : Array (Option Value)} {oc kV dc pm cd ct : Value}
    (a : PySem.W.nsIn K mainGlobals "_law_expression" = some (some (.ref f))) (l : K.lookup f = some ⟨oc, od, .func (PySem.W.fnOf "_law_expression" "_law_expression" (defArgs s__law_expression) (defBody s__law_expression) (defScope s__law_expression) .none kV dc pm an cd ct), sl⟩) (c : PySem.W.codeIn K cd "_law_expression" = true) (k : PySem.W.keepIn K (.ref f) = true) : Has K mg "_law_expression" s__law_expression ["_law_purse_here", "_law_depth", "_law_names"] :=
  ⟨f, _, fun_mk l c k, (fun_mk l c k).binds (ps := ["_law_purse_here", "_law_depth", "_law_names"]) fun _ _ _ _ _ _ us hl => match us, hl with | [_, _, _], _ => rfl, PySem.W.mg_of X G a⟩
theorem has__law_fact {h : Heap} (X : K.In h) (G : h.Ns mainGlobals mg) {f : Addr} {od an : Option Addr} {sl : Array (Option Value)} {oc kV dc pm cd ct : Value}
    (a : PySem.W.nsIn K mainGlobals "_law_fact" = some (some (.ref f))) (l : K.lookup f = some ⟨oc, od, .func (PySem.W.fnOf "_law_fact" "_law_fact" (defArgs s__law_fact) (defBody s__law_fact) (defScope s__law_fact) .none kV dc pm an cd ct), sl⟩) (c : PySem.W.codeIn K cd "_law_fact" = true) (k : PySem.W.keepIn K (.ref f) = true) : Has K mg "_law_fact" s__law_fact ["_law_purse_here", "_law_names"] :=
  ⟨f, _, fun_mk l c k, (fun_mk l c k).binds (ps := ["_law_purse_here", "_law_names"]) fun _ _ _ _ _ _ us hl => match us, hl with | [_, _], _ => rfl, PySem.W.mg_of X G a⟩
theorem has__law_saying {h : Heap} (X : K.In h) (G : h.Ns mainGlobals mg) {f : Addr} {od an : Option Addr} {sl : Array (Option Value)} {oc kV dc pm cd ct : Value}
    (a : PySem.W.nsIn K mainGlobals "_law_saying" = some (some (.ref f))) (l : K.lookup f = some ⟨oc, od, .func (PySem.W.fnOf "_law_saying" "_law_saying" (defArgs s__law_saying) (defBody s__law_saying) (defScope s__law_saying) .none kV dc pm an cd ct), sl⟩) (c : PySem.W.codeIn K cd "_law_saying" = true) (k : PySem.W.keepIn K (.ref f) = true) : Has K mg "_law_saying" s__law_saying ["_law_purse_here", "_law_depth", "_law_names"] :=
  ⟨f, _, fun_mk l c k, (fun_mk l c k).binds (ps := ["_law_purse_here", "_law_depth", "_law_names"]) fun _ _ _ _ _ _ us hl => match us, hl with | [_, _, _], _ => rfl, PySem.W.mg_of X G a⟩
theorem has__law_grid {h : Heap} (X : K.In h) (G : h.Ns mainGlobals mg) {f : Addr} {od an : Option Addr} {sl : Array (Option Value)} {oc kV dc pm cd ct : Value}
    (a : PySem.W.nsIn K mainGlobals "_law_grid" = some (some (.ref f))) (l : K.lookup f = some ⟨oc, od, .func (PySem.W.fnOf "_law_grid" "_law_grid" (defArgs s__law_grid) (defBody s__law_grid) (defScope s__law_grid) .none kV dc pm an cd ct), sl⟩) (c : PySem.W.codeIn K cd "_law_grid" = true) (k : PySem.W.keepIn K (.ref f) = true) : Has K mg "_law_grid" s__law_grid ["_law_size_here", "_law_tie"] :=
  ⟨f, _, fun_mk l c k, (fun_mk l c k).binds (ps := ["_law_size_here", "_law_tie"]) fun _ _ _ _ _ _ us hl => match us, hl with | [_, _], _ => rfl, PySem.W.mg_of X G a⟩
theorem has__law_named {h : Heap} (X : K.In h) (G : h.Ns mainGlobals mg) {f : Addr} {od an : Option Addr} {sl : Array (Option Value)} {oc kV dc pm cd ct : Value}
    (a : PySem.W.nsIn K mainGlobals "_law_named" = some (some (.ref f))) (l : K.lookup f = some ⟨oc, od, .func (PySem.W.fnOf "_law_named" "_law_named" (defArgs s__law_named) (defBody s__law_named) (defScope s__law_named) .none kV dc pm an cd ct), sl⟩) (c : PySem.W.codeIn K cd "_law_named" = true) (k : PySem.W.keepIn K (.ref f) = true) : Has K mg "_law_named" s__law_named ["_law_words_here", "_law_world_here", "_law_name"] :=
  ⟨f, _, fun_mk l c k, (fun_mk l c k).binds (ps := ["_law_words_here", "_law_world_here", "_law_name"]) fun _ _ _ _ _ _ us hl => match us, hl with | [_, _, _], _ => rfl, PySem.W.mg_of X G a⟩
theorem has__law_closed {h : Heap} (X : K.In h) (G : h.Ns mainGlobals mg) {f : Addr} {od an : Option Addr} {sl : Array (Option Value)} {oc kV dc pm cd ct : Value}
    (a : PySem.W.nsIn K mainGlobals "_law_closed" = some (some (.ref f))) (l : K.lookup f = some ⟨oc, od, .func (PySem.W.fnOf "_law_closed" "_law_closed" (defArgs s__law_closed) (defBody s__law_closed) (defScope s__law_closed) .none kV dc pm an cd ct), sl⟩) (c : PySem.W.codeIn K cd "_law_closed" = true) (k : PySem.W.keepIn K (.ref f) = true) : Has K mg "_law_closed" s__law_closed ["_law_grid_here"] :=
  ⟨f, _, fun_mk l c k, (fun_mk l c k).binds (ps := ["_law_grid_here"]) fun _ _ _ _ _ _ us hl => match us, hl with | [_], _ => rfl, PySem.W.mg_of X G a⟩
theorem has__law_two {h : Heap} (X : K.In h) (G : h.Ns mainGlobals mg) {f : Addr} {od an : Option Addr} {sl : Array (Option Value)} {oc kV dc pm cd ct : Value}
    (a : PySem.W.nsIn K mainGlobals "_law_two" = some (some (.ref f))) (l : K.lookup f = some ⟨oc, od, .func (PySem.W.fnOf "_law_two" "_law_two" (defArgs s__law_two) (defBody s__law_two) (defScope s__law_two) .none kV dc pm an cd ct), sl⟩) (c : PySem.W.codeIn K cd "_law_two" = true) (k : PySem.W.keepIn K (.ref f) = true) : Has K mg "_law_two" s__law_two ["_law_word", "_law_one", "_law_other"] :=
  ⟨f, _, fun_mk l c k, (fun_mk l c k).binds (ps := ["_law_word", "_law_one", "_law_other"]) fun _ _ _ _ _ _ us hl => match us, hl with | [_, _, _], _ => rfl, PySem.W.mg_of X G a⟩
theorem has__law_value {h : Heap} (X : K.In h) (G : h.Ns mainGlobals mg) {f : Addr} {od an : Option Addr} {sl : Array (Option Value)} {oc kV dc pm cd ct : Value}
    (a : PySem.W.nsIn K mainGlobals "_law_value" = some (some (.ref f))) (l : K.lookup f = some ⟨oc, od, .func (PySem.W.fnOf "_law_value" "_law_value" (defArgs s__law_value) (defBody s__law_value) (defScope s__law_value) .none kV dc pm an cd ct), sl⟩) (c : PySem.W.codeIn K cd "_law_value" = true) (k : PySem.W.keepIn K (.ref f) = true) : Has K mg "_law_value" s__law_value ["_law_words_here", "_law_world_here", "_law_expression_here"] :=
  ⟨f, _, fun_mk l c k, (fun_mk l c k).binds (ps := ["_law_words_here", "_law_world_here", "_law_expression_here"]) fun _ _ _ _ _ _ us hl => match us, hl with | [_, _, _], _ => rfl, PySem.W.mg_of X G a⟩
theorem has__law_counts {h : Heap} (X : K.In h) (G : h.Ns mainGlobals mg) {f : Addr} {od an : Option Addr} {sl : Array (Option Value)} {oc kV dc pm cd ct : Value}
    (a : PySem.W.nsIn K mainGlobals "_law_counts" = some (some (.ref f))) (l : K.lookup f = some ⟨oc, od, .func (PySem.W.fnOf "_law_counts" "_law_counts" (defArgs s__law_counts) (defBody s__law_counts) (defScope s__law_counts) .none kV dc pm an cd ct), sl⟩) (c : PySem.W.codeIn K cd "_law_counts" = true) (k : PySem.W.keepIn K (.ref f) = true) : Has K mg "_law_counts" s__law_counts ["_law_grid_here"] :=
  ⟨f, _, fun_mk l c k, (fun_mk l c k).binds (ps := ["_law_grid_here"]) fun _ _ _ _ _ _ us hl => match us, hl with | [_], _ => rfl, PySem.W.mg_of X G a⟩
theorem has__law_fact_kept {h : Heap} (X : K.In h) (G : h.Ns mainGlobals mg) {f : Addr} {od an : Option Addr} {sl : Array (Option Value)} {oc kV dc pm cd ct : Value}
    (a : PySem.W.nsIn K mainGlobals "_law_fact_kept" = some (some (.ref f))) (l : K.lookup f = some ⟨oc, od, .func (PySem.W.fnOf "_law_fact_kept" "_law_fact_kept" (defArgs s__law_fact_kept) (defBody s__law_fact_kept) (defScope s__law_fact_kept) .none kV dc pm an cd ct), sl⟩) (c : PySem.W.codeIn K cd "_law_fact_kept" = true) (k : PySem.W.keepIn K (.ref f) = true) : Has K mg "_law_fact_kept" s__law_fact_kept ["_law_words_here", "_law_world_here", "_law_saying_here"] :=
  ⟨f, _, fun_mk l c k, (fun_mk l c k).binds (ps := ["_law_words_here", "_law_world_here", "_law_saying_here"]) fun _ _ _ _ _ _ us hl => match us, hl with | [_, _, _], _ => rfl, PySem.W.mg_of X G a⟩
theorem has__law_kept {h : Heap} (X : K.In h) (G : h.Ns mainGlobals mg) {f : Addr} {od an : Option Addr} {sl : Array (Option Value)} {oc kV dc pm cd ct : Value}
    (a : PySem.W.nsIn K mainGlobals "_law_kept" = some (some (.ref f))) (l : K.lookup f = some ⟨oc, od, .func (PySem.W.fnOf "_law_kept" "_law_kept" (defArgs s__law_kept) (defBody s__law_kept) (defScope s__law_kept) .none kV dc pm an cd ct), sl⟩) (c : PySem.W.codeIn K cd "_law_kept" = true) (k : PySem.W.keepIn K (.ref f) = true) : Has K mg "_law_kept" s__law_kept ["_law_words_here", "_law_world_here", "_law_saying_here"] :=
  ⟨f, _, fun_mk l c k, (fun_mk l c k).binds (ps := ["_law_words_here", "_law_world_here", "_law_saying_here"]) fun _ _ _ _ _ _ us hl => match us, hl with | [_, _, _], _ => rfl, PySem.W.mg_of X G a⟩
theorem has__law_spots {h : Heap} (X : K.In h) (G : h.Ns mainGlobals mg) {f : Addr} {od an : Option Addr} {sl : Array (Option Value)} {oc kV dc pm cd ct : Value}
    (a : PySem.W.nsIn K mainGlobals "_law_spots" = some (some (.ref f))) (l : K.lookup f = some ⟨oc, od, .func (PySem.W.fnOf "_law_spots" "_law_spots" (defArgs s__law_spots) (defBody s__law_spots) (defScope s__law_spots) .none kV dc pm an cd ct), sl⟩) (c : PySem.W.codeIn K cd "_law_spots" = true) (k : PySem.W.keepIn K (.ref f) = true) : Has K mg "_law_spots" s__law_spots ["_law_words_here", "_law_size_here"] :=
  ⟨f, _, fun_mk l c k, (fun_mk l c k).binds (ps := ["_law_words_here", "_law_size_here"]) fun _ _ _ _ _ _ us hl => match us, hl with | [_, _], _ => rfl, PySem.W.mg_of X G a⟩
theorem has__law_bit_put {h : Heap} (X : K.In h) (G : h.Ns mainGlobals mg) {f : Addr} {od an : Option Addr} {sl : Array (Option Value)} {oc kV dc pm cd ct : Value}
    (a : PySem.W.nsIn K mainGlobals "_law_bit_put" = some (some (.ref f))) (l : K.lookup f = some ⟨oc, od, .func (PySem.W.fnOf "_law_bit_put" "_law_bit_put" (defArgs s__law_bit_put) (defBody s__law_bit_put) (defScope s__law_bit_put) .none kV dc pm an cd ct), sl⟩) (c : PySem.W.codeIn K cd "_law_bit_put" = true) (k : PySem.W.keepIn K (.ref f) = true) : Has K mg "_law_bit_put" s__law_bit_put ["_law_world_here", "_law_spot", "_law_truth"] :=
  ⟨f, _, fun_mk l c k, (fun_mk l c k).binds (ps := ["_law_world_here", "_law_spot", "_law_truth"]) fun _ _ _ _ _ _ us hl => match us, hl with | [_, _, _], _ => rfl, PySem.W.mg_of X G a⟩
theorem has__law_picked {h : Heap} (X : K.In h) (G : h.Ns mainGlobals mg) {f : Addr} {od an : Option Addr} {sl : Array (Option Value)} {oc kV dc pm cd ct : Value}
    (a : PySem.W.nsIn K mainGlobals "_law_picked" = some (some (.ref f))) (l : K.lookup f = some ⟨oc, od, .func (PySem.W.fnOf "_law_picked" "_law_picked" (defArgs s__law_picked) (defBody s__law_picked) (defScope s__law_picked) .none kV dc pm an cd ct), sl⟩) (c : PySem.W.codeIn K cd "_law_picked" = true) (k : PySem.W.keepIn K (.ref f) = true) : Has K mg "_law_picked" s__law_picked ["_law_spots_here", "_law_purse_here", "_law_many"] :=
  ⟨f, _, fun_mk l c k, (fun_mk l c k).binds (ps := ["_law_spots_here", "_law_purse_here", "_law_many"]) fun _ _ _ _ _ _ us hl => match us, hl with | [_, _, _], _ => rfl, PySem.W.mg_of X G a⟩
theorem has__law_between {h : Heap} (X : K.In h) (G : h.Ns mainGlobals mg) {f : Addr} {od an : Option Addr} {sl : Array (Option Value)} {oc kV dc pm cd ct : Value}
    (a : PySem.W.nsIn K mainGlobals "_law_between" = some (some (.ref f))) (l : K.lookup f = some ⟨oc, od, .func (PySem.W.fnOf "_law_between" "_law_between" (defArgs s__law_between) (defBody s__law_between) (defScope s__law_between) .none kV dc pm an cd ct), sl⟩) (c : PySem.W.codeIn K cd "_law_between" = true) (k : PySem.W.keepIn K (.ref f) = true) : Has K mg "_law_between" s__law_between ["_law_world_here", "_law_some"] :=
  ⟨f, _, fun_mk l c k, (fun_mk l c k).binds (ps := ["_law_world_here", "_law_some"]) fun _ _ _ _ _ _ us hl => match us, hl with | [_, _], _ => rfl, PySem.W.mg_of X G a⟩
theorem has__law_number {h : Heap} (X : K.In h) (G : h.Ns mainGlobals mg) {f : Addr} {od an : Option Addr} {sl : Array (Option Value)} {oc kV dc pm cd ct : Value}
    (a : PySem.W.nsIn K mainGlobals "_law_number" = some (some (.ref f))) (l : K.lookup f = some ⟨oc, od, .func (PySem.W.fnOf "_law_number" "_law_number" (defArgs s__law_number) (defBody s__law_number) (defScope s__law_number) .none kV dc pm an cd ct), sl⟩) (c : PySem.W.codeIn K cd "_law_number" = true) (k : PySem.W.keepIn K (.ref f) = true) : Has K mg "_law_number" s__law_number ["_law_grid_here"] :=
  ⟨f, _, fun_mk l c k, (fun_mk l c k).binds (ps := ["_law_grid_here"]) fun _ _ _ _ _ _ us hl => match us, hl with | [_], _ => rfl, PySem.W.mg_of X G a⟩
theorem has__law_so {h : Heap} (X : K.In h) (G : h.Ns mainGlobals mg) {f : Addr} {od an : Option Addr} {sl : Array (Option Value)} {oc kV dc pm cd ct : Value}
    (a : PySem.W.nsIn K mainGlobals "_law_so" = some (some (.ref f))) (l : K.lookup f = some ⟨oc, od, .func (PySem.W.fnOf "_law_so" "_law_so" (defArgs s__law_so) (defBody s__law_so) (defScope s__law_so) .none kV dc pm an cd ct), sl⟩) (c : PySem.W.codeIn K cd "_law_so" = true) (k : PySem.W.keepIn K (.ref f) = true) : Has K mg "_law_so" s__law_so ["_law_words_here", "_law_part", "_law_worlds", "_law_saying_here", "_law_expression_here"] :=
  ⟨f, _, fun_mk l c k, (fun_mk l c k).binds (ps := ["_law_words_here", "_law_part", "_law_worlds", "_law_saying_here", "_law_expression_here"]) fun _ _ _ _ _ _ us hl => match us, hl with | [_, _, _, _, _], _ => rfl, PySem.W.mg_of X G a⟩
theorem has__law_light {h : Heap} (X : K.In h) (G : h.Ns mainGlobals mg) {f : Addr} {od an : Option Addr} {sl : Array (Option Value)} {oc kV dc pm cd ct : Value}
    (a : PySem.W.nsIn K mainGlobals "_law_light" = some (some (.ref f))) (l : K.lookup f = some ⟨oc, od, .func (PySem.W.fnOf "_law_light" "_law_light" (defArgs s__law_light) (defBody s__law_light) (defScope s__law_light) .none kV dc pm an cd ct), sl⟩) (c : PySem.W.codeIn K cd "_law_light" = true) (k : PySem.W.keepIn K (.ref f) = true) : Has K mg "_law_light" s__law_light ["_law_purse_here", "_law_names", "_law_one"] :=
  ⟨f, _, fun_mk l c k, (fun_mk l c k).binds (ps := ["_law_purse_here", "_law_names", "_law_one"]) fun _ _ _ _ _ _ us hl => match us, hl with | [_, _, _], _ => rfl, PySem.W.mg_of X G a⟩
theorem law_mk {l : PySem.W.OpenLaw} {w : World} {h : Heap} {fa f : Addr} (X : K.In h) (G : h.Ns mainGlobals mg) (hfa : mg "law" = some (.ref fa)) (T : Top K mg) {od an : Option Addr} {sl : Array (Option Value)} {oc kV dc pm cd ct : Value}
    (a : PySem.W.nsIn K mainGlobals "law" = some (some (.ref f))) (lk : K.lookup f = some ⟨oc, od, .func (PySem.W.fnOf "law" "law" (defArgs s_law) (defBody s_law) (defScope s_law) .none kV dc pm an cd ct), sl⟩) (c : PySem.W.codeIn K cd "law" = true) (k : PySem.W.keepIn K (.ref f) = true) :
    ∃ fd : FuncData, (∀ (s : Shared) (v : Value), BindsTo s fd ⟨[v], []⟩ [("_law_script", v)]) ∧ ∀ base : Heap, K.In base → base.Ns mainGlobals mg → FnOk l.prog w K mg base CX0 24 fa fd ["_law_script"] (sp_law K) := by
  have e := hfa.symm.trans (PySem.W.mg_of X G a)
  cases e
  exact ⟨PySem.W.fnOf "law" "law" (defArgs s_law) (defBody s_law) (defScope s_law) .none kV dc pm an cd ct, fun s v => .of_eq rfl, fun base _ _ => g_law T (fun_mk lk c k)⟩
theorem law_asks {H : Hp} {a : Addr} {ns : List Int} (hl : ns.length ≤ 63) (hS : SqL K H a (ns.map V.int)) (E : XK) : sp_law K [.ref a] H (fun v _ => v = .bl true) E :=
  ⟨ns, hl, H, .refl H, .cons (.script hS rfl) .nil, fun v F2 H2 d _ hd e => by
    have e : d = .bool true := e
    subst e
    exact hd.bool_⟩
end
end Wf


open PySem PySem.W PyProof.Rows
set_option maxRecDepth 100000 in
set_option maxHeartbeats 0 in
theorem PySem.Challenge.cw_worldfind_k23_whole_what_is_told_is_so_holds : PySem.Challenge.rw_worldfind_k23_whole_what_is_told_is_so.Holds := by
  w_on; o_law; k_head; (case hw => w_witness2)
  k_fill
  refine L2.walk_of (l := PySem.Challenge.rw_worldfind_k23_whole_what_is_told_is_so) (n := 63) (k := 24) (x := "_law_script") (CX := fun _ => L2.CX0) (sp := fun w => Wf.sp_law _) rfl (by decide) rfl ⟨rfl, by decide, by decide⟩ (fun w h Y => PySem.W.kIn_of Y) ?F (fun w H a ns hl _ hS => Wf.law_asks hl hS _) (fun _ _ _ _ _ h => h)
  case F =>
    intro w mg fa h KX G hmg
    have F_is_within : Wf.HasAt KX mg "is_within" Wf.s_is_within ["size", "thing"] := by
      refine' Wf.has_is_within KX G ?a ?l ?c ?k
      (case a => k_is); (case l => k_is); (case c => k_is); (case k => k_is)
    have F_row_of : Wf.HasAt KX mg "row_of" Wf.s_row_of ["size", "tie", "a"] := by
      refine' Wf.has_row_of KX G ?a ?l ?c ?k
      (case a => k_is); (case l => k_is); (case c => k_is); (case k => k_is)
    have F_pairs_of : Wf.HasAt KX mg "pairs_of" Wf.s_pairs_of ["size", "tie"] := by
      refine' Wf.has_pairs_of KX G ?a ?l ?c ?k
      (case a => k_is); (case l => k_is); (case c => k_is); (case k => k_is)
    have F_tie_of : Wf.HasAt KX mg "tie_of" Wf.s_tie_of ["size", "pairs"] := by
      refine' Wf.has_tie_of KX G ?a ?l ?c ?k
      (case a => k_is); (case l => k_is); (case c => k_is); (case k => k_is)
    have F_common : Wf.HasAt KX mg "common" Wf.s_common ["one", "other"] := by
      refine' Wf.has_common KX G ?a ?l ?c ?k
      (case a => k_is); (case l => k_is); (case c => k_is); (case k => k_is)
    have F_either : Wf.HasAt KX mg "either" Wf.s_either ["one", "other"] := by
      refine' Wf.has_either KX G ?a ?l ?c ?k
      (case a => k_is); (case l => k_is); (case c => k_is); (case k => k_is)
    have F_without : Wf.HasAt KX mg "without" Wf.s_without ["one", "other"] := by
      refine' Wf.has_without KX G ?a ?l ?c ?k
      (case a => k_is); (case l => k_is); (case c => k_is); (case k => k_is)
    have F_turned : Wf.HasAt KX mg "turned" Wf.s_turned ["size", "tie"] := by
      refine' Wf.has_turned KX G ?a ?l ?c ?k
      (case a => k_is); (case l => k_is); (case c => k_is); (case k => k_is)
    have F_joined : Wf.HasAt KX mg "joined" Wf.s_joined ["size", "one", "other"] := by
      refine' Wf.has_joined KX G ?a ?l ?c ?k
      (case a => k_is); (case l => k_is); (case c => k_is); (case k => k_is)
    have F_closed : Wf.HasAt KX mg "closed" Wf.s_closed ["size", "tie"] := by
      refine' Wf.has_closed KX G ?a ?l ?c ?k
      (case a => k_is); (case l => k_is); (case c => k_is); (case k => k_is)
    have F_same : Wf.HasAt KX mg "same" Wf.s_same ["size"] := by
      refine' Wf.has_same KX G ?a ?l ?c ?k
      (case a => k_is); (case l => k_is); (case c => k_is); (case k => k_is)
    have F_every : Wf.HasAt KX mg "every" Wf.s_every ["size"] := by
      refine' Wf.has_every KX G ?a ?l ?c ?k
      (case a => k_is); (case l => k_is); (case c => k_is); (case k => k_is)
    have F_kind_tie : Wf.HasAt KX mg "kind_tie" Wf.s_kind_tie ["size", "kind"] := by
      refine' Wf.has_kind_tie KX G ?a ?l ?c ?k
      (case a => k_is); (case l => k_is); (case c => k_is); (case k => k_is)
    have F_named : Wf.HasAt KX mg "named" Wf.s_named ["words", "world", "name"] := by
      refine' Wf.has_named KX G ?a ?l ?c ?k
      (case a => k_is); (case l => k_is); (case c => k_is); (case k => k_is)
    have F_made : Wf.HasAt KX mg "made" Wf.s_made ["size", "word", "parts"] := by
      refine' Wf.has_made KX G ?a ?l ?c ?k
      (case a => k_is); (case l => k_is); (case c => k_is); (case k => k_is)
    have F_tied_numbers : Wf.HasAt KX mg "tied_numbers" Wf.s_tied_numbers ["size", "tie"] := by
      refine' Wf.has_tied_numbers KX G ?a ?l ?c ?k
      (case a => k_is); (case l => k_is); (case c => k_is); (case k => k_is)
    have F_bounds : Wf.HasAt KX mg "bounds" Wf.s_bounds ["words", "part", "expression"] := by
      refine' Wf.has_bounds KX G ?a ?l ?c ?k
      (case a => k_is); (case l => k_is); (case c => k_is); (case k => k_is)
    have F_told_in : Wf.HasAt KX mg "told_in" Wf.s_told_in ["one", "other"] := by
      refine' Wf.has_told_in KX G ?a ?l ?c ?k
      (case a => k_is); (case l => k_is); (case c => k_is); (case k => k_is)
    have F_told_both : Wf.HasAt KX mg "told_both" Wf.s_told_both ["one", "other"] := by
      refine' Wf.has_told_both KX G ?a ?l ?c ?k
      (case a => k_is); (case l => k_is); (case c => k_is); (case k => k_is)
    have F_told_not : Wf.HasAt KX mg "told_not" Wf.s_told_not ["one"] := by
      refine' Wf.has_told_not KX G ?a ?l ?c ?k
      (case a => k_is); (case l => k_is); (case c => k_is); (case k => k_is)
    have F_told_least : Wf.HasAt KX mg "told_least" Wf.s_told_least ["low", "high", "number"] := by
      refine' Wf.has_told_least KX G ?a ?l ?c ?k
      (case a => k_is); (case l => k_is); (case c => k_is); (case k => k_is)
    have F_told_most : Wf.HasAt KX mg "told_most" Wf.s_told_most ["low", "high", "number"] := by
      refine' Wf.has_told_most KX G ?a ?l ?c ?k
      (case a => k_is); (case l => k_is); (case c => k_is); (case k => k_is)
    have F_told_fact : Wf.HasAt KX mg "told_fact" Wf.s_told_fact ["size", "saying", "parts"] := by
      refine' Wf.has_told_fact KX G ?a ?l ?c ?k
      (case a => k_is); (case l => k_is); (case c => k_is); (case k => k_is)
    have F_told : Wf.HasAt KX mg "told" Wf.s_told ["words", "part", "saying"] := by
      refine' Wf.has_told KX G ?a ?l ?c ?k
      (case a => k_is); (case l => k_is); (case c => k_is); (case k => k_is)
    have F__law_cell : Wf.HasAt KX mg "_law_cell" Wf.s__law_cell ["_law_script", "_law_k"] := by
      refine' Wf.has__law_cell KX G ?a ?l ?c ?k
      (case a => k_is); (case l => k_is); (case c => k_is); (case k => k_is)
    have F__law_purse : Wf.HasAt KX mg "_law_purse" Wf.s__law_purse ["_law_script", "_law_k"] := by
      refine' Wf.has__law_purse KX G ?a ?l ?c ?k
      (case a => k_is); (case l => k_is); (case c => k_is); (case k => k_is)
    have F__law_next : Wf.HasAt KX mg "_law_next" Wf.s__law_next ["_law_purse_here", "_law_many"] := by
      refine' Wf.has__law_next KX G ?a ?l ?c ?k
      (case a => k_is); (case l => k_is); (case c => k_is); (case k => k_is)
    have F__law_family : Wf.HasAt KX mg "_law_family" Wf.s__law_family ["_law_cell_here", "_law_many"] := by
      refine' Wf.has__law_family KX G ?a ?l ?c ?k
      (case a => k_is); (case l => k_is); (case c => k_is); (case k => k_is)
    have F__law_any_names : Wf.HasAt KX mg "_law_any_names" Wf.s__law_any_names ["_law_script", "_law_kinds", "_law_ties"] := by
      refine' Wf.has__law_any_names KX G ?a ?l ?c ?k
      (case a => k_is); (case l => k_is); (case c => k_is); (case k => k_is)
    have F__law_words : Wf.HasAt KX mg "_law_words" Wf.s__law_words ["_law_script"] := by
      refine' Wf.has__law_words KX G ?a ?l ?c ?k
      (case a => k_is); (case l => k_is); (case c => k_is); (case k => k_is)
    have F__law_size : Wf.HasAt KX mg "_law_size" Wf.s__law_size ["_law_purse_here"] := by
      refine' Wf.has__law_size KX G ?a ?l ?c ?k
      (case a => k_is); (case l => k_is); (case c => k_is); (case k => k_is)
    have F__law_world : Wf.HasAt KX mg "_law_world" Wf.s__law_world ["_law_words_here", "_law_size_here", "_law_purse_here"] := by
      refine' Wf.has__law_world KX G ?a ?l ?c ?k
      (case a => k_is); (case l => k_is); (case c => k_is); (case k => k_is)
    have F__law_leaf : Wf.HasAt KX mg "_law_leaf" Wf.s__law_leaf ["_law_purse_here", "_law_names"] := by
      refine' Wf.has__law_leaf KX G ?a ?l ?c ?k
      (case a => k_is); (case l => k_is); (case c => k_is); (case k => k_is)
    have F__law_expression : Wf.HasAt KX mg "_law_expression" Wf.s__law_expression ["_law_purse_here", "_law_depth", "_law_names"] := by
      refine' Wf.has__law_expression KX G ?a ?l ?c ?k
      (case a => k_is); (case l => k_is); (case c => k_is); (case k => k_is)
    have F__law_fact : Wf.HasAt KX mg "_law_fact" Wf.s__law_fact ["_law_purse_here", "_law_names"] := by
      refine' Wf.has__law_fact KX G ?a ?l ?c ?k
      (case a => k_is); (case l => k_is); (case c => k_is); (case k => k_is)
    have F__law_saying : Wf.HasAt KX mg "_law_saying" Wf.s__law_saying ["_law_purse_here", "_law_depth", "_law_names"] := by
      refine' Wf.has__law_saying KX G ?a ?l ?c ?k
      (case a => k_is); (case l => k_is); (case c => k_is); (case k => k_is)
    have F__law_grid : Wf.HasAt KX mg "_law_grid" Wf.s__law_grid ["_law_size_here", "_law_tie"] := by
      refine' Wf.has__law_grid KX G ?a ?l ?c ?k
      (case a => k_is); (case l => k_is); (case c => k_is); (case k => k_is)
    have F__law_named : Wf.HasAt KX mg "_law_named" Wf.s__law_named ["_law_words_here", "_law_world_here", "_law_name"] := by
      refine' Wf.has__law_named KX G ?a ?l ?c ?k
      (case a => k_is); (case l => k_is); (case c => k_is); (case k => k_is)
    have F__law_closed : Wf.HasAt KX mg "_law_closed" Wf.s__law_closed ["_law_grid_here"] := by
      refine' Wf.has__law_closed KX G ?a ?l ?c ?k
      (case a => k_is); (case l => k_is); (case c => k_is); (case k => k_is)
    have F__law_two : Wf.HasAt KX mg "_law_two" Wf.s__law_two ["_law_word", "_law_one", "_law_other"] := by
      refine' Wf.has__law_two KX G ?a ?l ?c ?k
      (case a => k_is); (case l => k_is); (case c => k_is); (case k => k_is)
    have F__law_value : Wf.HasAt KX mg "_law_value" Wf.s__law_value ["_law_words_here", "_law_world_here", "_law_expression_here"] := by
      refine' Wf.has__law_value KX G ?a ?l ?c ?k
      (case a => k_is); (case l => k_is); (case c => k_is); (case k => k_is)
    have F__law_counts : Wf.HasAt KX mg "_law_counts" Wf.s__law_counts ["_law_grid_here"] := by
      refine' Wf.has__law_counts KX G ?a ?l ?c ?k
      (case a => k_is); (case l => k_is); (case c => k_is); (case k => k_is)
    have F__law_fact_kept : Wf.HasAt KX mg "_law_fact_kept" Wf.s__law_fact_kept ["_law_words_here", "_law_world_here", "_law_saying_here"] := by
      refine' Wf.has__law_fact_kept KX G ?a ?l ?c ?k
      (case a => k_is); (case l => k_is); (case c => k_is); (case k => k_is)
    have F__law_kept : Wf.HasAt KX mg "_law_kept" Wf.s__law_kept ["_law_words_here", "_law_world_here", "_law_saying_here"] := by
      refine' Wf.has__law_kept KX G ?a ?l ?c ?k
      (case a => k_is); (case l => k_is); (case c => k_is); (case k => k_is)
    have F__law_spots : Wf.HasAt KX mg "_law_spots" Wf.s__law_spots ["_law_words_here", "_law_size_here"] := by
      refine' Wf.has__law_spots KX G ?a ?l ?c ?k
      (case a => k_is); (case l => k_is); (case c => k_is); (case k => k_is)
    have F__law_bit_put : Wf.HasAt KX mg "_law_bit_put" Wf.s__law_bit_put ["_law_world_here", "_law_spot", "_law_truth"] := by
      refine' Wf.has__law_bit_put KX G ?a ?l ?c ?k
      (case a => k_is); (case l => k_is); (case c => k_is); (case k => k_is)
    have F__law_picked : Wf.HasAt KX mg "_law_picked" Wf.s__law_picked ["_law_spots_here", "_law_purse_here", "_law_many"] := by
      refine' Wf.has__law_picked KX G ?a ?l ?c ?k
      (case a => k_is); (case l => k_is); (case c => k_is); (case k => k_is)
    have F__law_between : Wf.HasAt KX mg "_law_between" Wf.s__law_between ["_law_world_here", "_law_some"] := by
      refine' Wf.has__law_between KX G ?a ?l ?c ?k
      (case a => k_is); (case l => k_is); (case c => k_is); (case k => k_is)
    have F__law_number : Wf.HasAt KX mg "_law_number" Wf.s__law_number ["_law_grid_here"] := by
      refine' Wf.has__law_number KX G ?a ?l ?c ?k
      (case a => k_is); (case l => k_is); (case c => k_is); (case k => k_is)
    have F__law_so : Wf.HasAt KX mg "_law_so" Wf.s__law_so ["_law_words_here", "_law_part", "_law_worlds", "_law_saying_here", "_law_expression_here"] := by
      refine' Wf.has__law_so KX G ?a ?l ?c ?k
      (case a => k_is); (case l => k_is); (case c => k_is); (case k => k_is)
    have F__law_light : Wf.HasAt KX mg "_law_light" Wf.s__law_light ["_law_purse_here", "_law_names", "_law_one"] := by
      refine' Wf.has__law_light KX G ?a ?l ?c ?k
      (case a => k_is); (case l => k_is); (case c => k_is); (case k => k_is)
    have Z_isinstance : mg "isinstance" = none := by
      refine' PySem.W.mg_none_of KX G ?z
      (case z => k_is)
    have Z_int : mg "int" = none := by
      refine' PySem.W.mg_none_of KX G ?z
      (case z => k_is)
    have Z_bool : mg "bool" = none := by
      refine' PySem.W.mg_none_of KX G ?z
      (case z => k_is)
    have Z_range : mg "range" = none := by
      refine' PySem.W.mg_none_of KX G ?z
      (case z => k_is)
    have Z_all : mg "all" = none := by
      refine' PySem.W.mg_none_of KX G ?z
      (case z => k_is)
    have Z_any : mg "any" = none := by
      refine' PySem.W.mg_none_of KX G ?z
      (case z => k_is)
    have Z_sum : mg "sum" = none := by
      refine' PySem.W.mg_none_of KX G ?z
      (case z => k_is)
    have Z_tuple : mg "tuple" = none := by
      refine' PySem.W.mg_none_of KX G ?z
      (case z => k_is)
    have Z_len : mg "len" = none := by
      refine' PySem.W.mg_none_of KX G ?z
      (case z => k_is)
    have Z_sorted : mg "sorted" = none := by
      refine' PySem.W.mg_none_of KX G ?z
      (case z => k_is)
    have Z_list : mg "list" = none := by
      refine' PySem.W.mg_none_of KX G ?z
      (case z => k_is)
    have Z_max : mg "max" = none := by
      refine' PySem.W.mg_none_of KX G ?z
      (case z => k_is)
    have Z_min : mg "min" = none := by
      refine' PySem.W.mg_none_of KX G ?z
      (case z => k_is)
    have T : Wf.TopAt KX mg := ⟨Z_isinstance, Z_int, Z_bool, Z_range, Z_all, Z_any, Z_sum, Z_tuple, Z_len, Z_sorted, Z_list, Z_max, Z_min, F_is_within, F_row_of, F_pairs_of, F_tie_of, F_common, F_either, F_without, F_turned, F_joined, F_closed, F_same, F_every, F_kind_tie, F_named, F_made, F_tied_numbers, F_bounds, F_told_in, F_told_both, F_told_not, F_told_least, F_told_most, F_told_fact, F_told, F__law_cell, F__law_purse, F__law_next, F__law_family, F__law_any_names, F__law_words, F__law_size, F__law_world, F__law_leaf, F__law_expression, F__law_fact, F__law_saying, F__law_grid, F__law_named, F__law_closed, F__law_two, F__law_value, F__law_counts, F__law_fact_kept, F__law_kept, F__law_spots, F__law_bit_put, F__law_picked, F__law_between, F__law_number, F__law_so, F__law_light⟩
    refine' Wf.law_mk KX G hmg T ?a ?l ?c ?k
    (case a => k_is); (case l => k_is); (case c => k_is); (case k => k_is)


