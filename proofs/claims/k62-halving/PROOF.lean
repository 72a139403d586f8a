import PyProof.Rows.All
import Wide.All
import OpenK.AllK
import Wide.FinOn
import HandS.ForMost
import HandS.Walk
import HandS.TupAny
import HandS.SortInts
import HandS.SortKw
import HandS.IsInst
import HandS.WideBits
import HandS.Strs
import HandS.TupSets
import HandS.More
import HandS.Small
import KE.SortData
import PySem.Challenge.RW_raisedsums_k62_whole_halving
import KE.OsArith
import KE.BitLaws
import KE.KTupSum
import HandS.Codes
-- part Mth
set_option Elab.async false
set_option linter.all false
/-! The plain law: products, ways, sums, no program in sight. -/
namespace Rz
abbrev P := List Nat

/-! ### ways -/
def steps (e k : Nat) : List Nat := (List.range (min e k + 1)).filter fun j => e &&& j == j
def ways : P → Nat → List P
  | [], k => if k = 0 then [[]] else []
  | e :: p, k => (steps e k).flatMap fun j => (ways p (k - j)).map fun q => (e + j) :: q
def isWay : P → Nat → P → Bool
  | [], k, [] => k == 0
  | e :: p, k, x :: y => decide (e ≤ x) && (decide (x - e ≤ min e k) && (e &&& (x - e) == x - e)) && isWay p (k - (x - e)) y
  | _, _, _ => false

theorem isWay_cons (e : Nat) (p : P) (k x : Nat) (y : P) : isWay (e :: p) k (x :: y) = (decide (e ≤ x) && (decide (x - e ≤ min e k) && (e &&& (x - e) == x - e)) && isWay p (k - (x - e)) y) := rfl
theorem mem_steps {e k j : Nat} : j ∈ steps e k ↔ j ≤ min e k ∧ e &&& j = j := by
  unfold steps
  rw [List.mem_filter, List.mem_range]
  constructor
  · rintro ⟨h, g⟩; exact ⟨by omega, by simpa using g⟩
  · rintro ⟨h, g⟩; exact ⟨by omega, by simpa using g⟩
theorem nodup_steps (e k : Nat) : (steps e k).Nodup := List.Pairwise.sublist List.filter_sublist List.nodup_range

theorem count_map_cons (a : Nat) (q : P) (l : List P) (b : Nat) : ((l.map fun q => b :: q).count (a :: q)) = if a = b then l.count q else 0 := by
  induction l with
  | nil => simp
  | cons c l ih =>
    rw [List.map_cons, List.count_cons, ih, List.count_cons]
    by_cases h : a = b
    · subst h
      simp
    · have : ¬ b = a := fun q => h q.symm
      simp [h, this]
theorem sum_one (f : Nat → Nat) (a : Nat) : ∀ (l : List Nat), l.Nodup → (l.map fun j => if a = j then f j else 0).sum = if a ∈ l then f a else 0
  | [], _ => rfl
  | b :: l, h => by
    have h' := List.nodup_cons.mp h
    rw [List.map_cons, List.sum_cons, sum_one f a l h'.2]
    by_cases e : a = b
    · subst e
      simp [h'.1]
    · by_cases g : a ∈ l
      · simp [e, g]
      · simp [e, g]
theorem count_ways : ∀ (p : P) (k : Nat) (x : P), (ways p k).count x = if isWay p k x = true then 1 else 0
  | [], k, [] => by
    unfold ways isWay
    by_cases h : k = 0
    · simp [h]
    · simp [h]
  | [], k, x :: y => by
    unfold ways
    by_cases h : k = 0
    · simp [h, isWay]
    · simp [h, isWay]
  | e :: p, k, [] => by
    unfold ways
    rw [List.count_flatMap]
    have : (List.count [] ∘ fun j => (ways p (k - j)).map fun q => (e + j) :: q) = fun _ : Nat => 0 := by
      funext j
      show List.count [] ((ways p (k - j)).map fun q => (e + j) :: q) = 0
      rw [List.count_eq_zero]
      intro h
      obtain ⟨q, _, h⟩ := List.mem_map.mp h
      cases h
    rw [this]
    have z : ∀ l : List Nat, (l.map fun _ => 0).sum = 0 := by
      intro l
      induction l with
      | nil => rfl
      | cons a l ih => rw [List.map_cons, List.sum_cons, ih]
    rw [z]
    simp [isWay]
  | e :: p, k, x :: y => by
    unfold ways
    rw [List.count_flatMap]
    by_cases h : e ≤ x
    · have : (List.count (x :: y) ∘ fun j => (ways p (k - j)).map fun q => (e + j) :: q) = fun j => if x - e = j then (if isWay p (k - j) y = true then 1 else 0) else 0 := by
        funext j
        show List.count (x :: y) ((ways p (k - j)).map fun q => (e + j) :: q) = _
        rw [count_map_cons, count_ways p (k - j) y]
        by_cases g : x - e = j
        · rw [if_pos g, if_pos (show x = e + j by omega)]
        · rw [if_neg g, if_neg (show ¬ x = e + j by omega)]
      rw [this, sum_one _ _ _ (nodup_steps e k), isWay_cons]
      by_cases g : x - e ∈ steps e k
      · obtain ⟨g1, g2⟩ := mem_steps.mp g
        rw [if_pos g]
        rw [decide_eq_true h, decide_eq_true g1, g2, beq_self_eq_true, Bool.and_self, Bool.and_self, Bool.true_and]
      · rw [if_neg g]
        rw [if_neg]
        intro q
        simp only [Bool.and_eq_true, decide_eq_true_eq, beq_iff_eq] at q
        exact g (mem_steps.mpr q.1.2)
    · have : (List.count (x :: y) ∘ fun j => (ways p (k - j)).map fun q => (e + j) :: q) = fun j => if x + 1 = j then 0 else 0 := by
        funext j
        show List.count (x :: y) ((ways p (k - j)).map fun q => (e + j) :: q) = _
        rw [count_map_cons, if_neg (show ¬ x = e + j by omega)]
        simp
      rw [this, sum_one (fun _ => 0) _ _ (nodup_steps e k)]
      simp [isWay, h]
theorem mem_ways {p : P} {k : Nat} {x : P} : x ∈ ways p k ↔ isWay p k x = true := by
  rw [← List.count_pos_iff, count_ways]
  by_cases h : isWay p k x = true <;> simp [h]
theorem way_len : ∀ (p : P) (k : Nat) (x : P), isWay p k x = true → x.length = p.length ∧ x.sum = p.sum + k
  | [], k, [], h => by
    simp [isWay] at h
    simp [h]
  | [], k, x :: y, h => by simp [isWay] at h
  | e :: p, k, [], h => by simp [isWay] at h
  | e :: p, k, x :: y, h => by
    simp only [isWay, Bool.and_eq_true, decide_eq_true_eq, beq_iff_eq] at h
    obtain ⟨⟨h1, h2, h3⟩, h4⟩ := h
    obtain ⟨g1, g2⟩ := way_len p _ y h4
    refine ⟨by simp [g1], ?_⟩
    rw [List.sum_cons, List.sum_cons, g2]
    omega

/-! ### odd exponents: M1, M2 -/
def allOdd (p : P) : Bool := p.all fun e => e % 2 == 1
def half (p : P) : P := p.map fun e => e / 2
def dbl (p : P) : P := p.map fun e => 2 * e + 1
theorem half_dbl (p : P) : half (dbl p) = p := by
  unfold half dbl
  rw [List.map_map]
  have : ((fun e => e / 2) ∘ fun e => 2 * e + 1) = (id : Nat → Nat) := by
    funext e
    show (2 * e + 1) / 2 = e
    omega
  rw [this, List.map_id]
theorem allOdd_dbl (p : P) : allOdd (dbl p) = true := by
  unfold allOdd dbl
  rw [List.all_eq_true]
  intro x hx
  obtain ⟨e, _, rfl⟩ := List.mem_map.mp hx
  have : (2 * e + 1) % 2 = 1 := by omega
  simp [this]
theorem dbl_half : ∀ {p : P}, allOdd p = true → dbl (half p) = p
  | [], _ => rfl
  | e :: p, h => by
    have h' : e % 2 = 1 ∧ allOdd p = true := by
      unfold allOdd at h ⊢
      simpa using h
    show (2 * (e / 2) + 1) :: dbl (half p) = e :: p
    rw [dbl_half h'.2]
    congr 1
    omega
theorem land_mod (e j : Nat) : (e &&& j) % 2 = (e % 2) * (j % 2) := by
  have h := Nat.testBit_and e j 0
  rw [Nat.testBit_zero, Nat.testBit_zero, Nat.testBit_zero] at h
  have h1 : e % 2 = 0 ∨ e % 2 = 1 := by omega
  have h2 : j % 2 = 0 ∨ j % 2 = 1 := by omega
  have h3 : (e &&& j) % 2 = 0 ∨ (e &&& j) % 2 = 1 := by omega
  rcases h1 with h1 | h1 <;> rcases h2 with h2 | h2 <;> rcases h3 with h3 | h3 <;> simp [h1, h2, h3] at h ⊢
theorem land_div (e j : Nat) : (e &&& j) / 2 = (e / 2) &&& (j / 2) := by
  apply Nat.eq_of_testBit_eq
  intro i
  rw [Nat.testBit_and, Nat.testBit_div_two, Nat.testBit_div_two, Nat.testBit_div_two, Nat.testBit_and]
/-- a raised exponent that is odd: the step is even, the exponent odd -/
theorem odd_step {e j : Nat} (h : e &&& j = j) (ho : (e + j) % 2 = 1) : e % 2 = 1 ∧ j % 2 = 0 := by
  have := land_mod e j
  rw [h] at this
  have h1 : e % 2 = 0 ∨ e % 2 = 1 := by omega
  rcases h1 with h1 | h1
  · rw [h1] at this
    omega
  · omega
theorem odd_part : ∀ (p : P) (k : Nat) (x : P), isWay p k x = true → allOdd x = true → k % 2 = 0
  | [], k, [], h, _ => by
    simp [isWay] at h
    omega
  | [], k, x :: y, h, _ => by simp [isWay] at h
  | e :: p, k, [], h, _ => by simp [isWay] at h
  | e :: p, k, x :: y, h, ho => by
    simp only [isWay, Bool.and_eq_true, decide_eq_true_eq, beq_iff_eq] at h
    obtain ⟨⟨h1, h2, h3⟩, h4⟩ := h
    have ho' : x % 2 = 1 ∧ allOdd y = true := by
      unfold allOdd at ho ⊢
      simpa using ho
    have h5 := odd_part p _ y h4 ho'.2
    have h6 := odd_step h3 (by rw [show e + (x - e) = x by omega]; exact ho'.1)
    omega
theorem way_dbl : ∀ (p : P) (k : Nat) (q : P), isWay p (2 * k) (dbl q) = (allOdd p && isWay (half p) k q)
  | [], k, [] => by
    by_cases h : k = 0
    · simp [isWay, dbl, half, allOdd, h]
    · have h' : (2 * k == 0) = false := by
        have : ¬ 2 * k = 0 := by omega
        simpa using this
      have h2 : (k == 0) = false := by simpa using h
      show (2 * k == 0) = (true && (k == 0))
      rw [h', h2]
      rfl
  | [], k, x :: y => by simp [isWay, dbl, half, allOdd]
  | e :: p, k, [] => by simp [isWay, dbl, half, allOdd]
  | e :: p, k, y :: q => by
    show isWay (e :: p) (2 * k) ((2 * y + 1) :: dbl q) = (allOdd (e :: p) && isWay ((e / 2) :: half p) k (y :: q))
    by_cases hc : e ≤ 2 * y + 1 ∧ 2 * y + 1 - e ≤ min e (2 * k) ∧ e &&& (2 * y + 1 - e) = 2 * y + 1 - e
    · obtain ⟨h1, h2, h3⟩ := hc
      obtain ⟨o1, o2⟩ := odd_step h3 (by rw [show e + (2 * y + 1 - e) = 2 * y + 1 by omega]; omega)
      have e1 : (2 * y + 1 - e) / 2 = y - e / 2 := by omega
      have e2 : (e / 2) &&& (y - e / 2) = y - e / 2 := by
        rw [← e1, ← land_div, h3]
      have e3 : 2 * k - (2 * y + 1 - e) = 2 * (k - (y - e / 2)) := by omega
      have ih := way_dbl p (k - (y - e / 2)) q
      have l1 : isWay (e :: p) (2 * k) ((2 * y + 1) :: dbl q) = isWay p (2 * k - (2 * y + 1 - e)) (dbl q) := by
        simp only [isWay]
        rw [decide_eq_true h1, decide_eq_true h2, h3]
        simp
      have l2 : isWay ((e / 2) :: half p) k (y :: q) = isWay (half p) (k - (y - e / 2)) q := by
        simp only [isWay]
        rw [decide_eq_true (show e / 2 ≤ y by omega), decide_eq_true (show y - e / 2 ≤ min (e / 2) k by omega), e2]
        simp
      have l3 : allOdd (e :: p) = allOdd p := by
        unfold allOdd
        simp [o1]
      rw [l1, l2, l3, e3, ih]
    · have l1 : isWay (e :: p) (2 * k) ((2 * y + 1) :: dbl q) = false := by
        cases z : isWay (e :: p) (2 * k) ((2 * y + 1) :: dbl q) with
        | false => rfl
        | true =>
          simp only [isWay, Bool.and_eq_true, decide_eq_true_eq, beq_iff_eq] at z
          exact absurd z.1 hc
      rw [l1]
      cases z : allOdd (e :: p) && isWay ((e / 2) :: half p) k (y :: q) with
      | false => rfl
      | true =>
        exfalso
        apply hc
        simp only [Bool.and_eq_true] at z
        obtain ⟨z1, z2⟩ := z
        have o1 : e % 2 = 1 := by
          unfold allOdd at z1
          simp at z1
          exact z1.1
        simp only [isWay, Bool.and_eq_true, decide_eq_true_eq, beq_iff_eq] at z2
        obtain ⟨⟨h1, h2, h3⟩, _⟩ := z2
        refine ⟨by omega, by omega, ?_⟩
        have e1 : (2 * y + 1 - e) = 2 * (y - e / 2) := by omega
        have d1 : (e &&& (2 * y + 1 - e)) / 2 = (2 * y + 1 - e) / 2 := by
          rw [land_div, e1, show 2 * (y - e / 2) / 2 = y - e / 2 by omega, h3]
        have d2 : (e &&& (2 * y + 1 - e)) % 2 = (2 * y + 1 - e) % 2 := by
          rw [land_mod, o1, Nat.one_mul]
        omega

/-! ### sums: sorted lists of products that stand an odd number of times -/
def toggle (x : P) : List P → List P
  | [] => [x]
  | y :: l => if x = y then l else if x < y then x :: y :: l else y :: toggle x l
def oddOf (l : List P) : List P := l.foldr toggle []
abbrev Srt (l : List P) : Prop := l.Pairwise (· < ·)
theorem lt_tri {x y : P} (h1 : ¬ x = y) (h2 : ¬ x < y) : y < x := by
  have h3 : y ≤ x := List.not_lt.mp h2
  exact Std.lt_of_le_of_ne h3 (fun q => h1 q.symm)
theorem mem_toggle (x z : P) : ∀ {l : List P}, Srt l → (z ∈ toggle x l ↔ ((z ∈ l ∧ z ≠ x) ∨ (z ∉ l ∧ z = x)))
  | [], _ => by simp [toggle]
  | y :: l, h => by
    obtain ⟨h1, h2⟩ := List.pairwise_cons.mp h
    unfold toggle
    by_cases e : x = y
    · subst e
      rw [if_pos rfl]
      have nx : x ∉ l := fun q => List.lt_irrefl x (h1 x q)
      constructor
      · intro q
        exact .inl ⟨List.mem_cons_of_mem _ q, fun z => nx (z ▸ q)⟩
      · rintro (⟨a, b⟩ | ⟨a, b⟩)
        · rcases List.mem_cons.mp a with q | q
          · exact absurd q b
          · exact q
        · exact absurd (b ▸ List.mem_cons_self) a
    · rw [if_neg e]
      by_cases g : x < y
      · rw [if_pos g]
        have nx : x ∉ y :: l := by
          intro q
          rcases List.mem_cons.mp q with q | q
          · exact e q
          · exact List.lt_irrefl x (List.lt_trans g (h1 x q))
        constructor
        · intro q
          rcases List.mem_cons.mp q with q | q
          · exact .inr ⟨q ▸ nx, q⟩
          · exact .inl ⟨q, fun z => nx (z ▸ q)⟩
        · rintro (⟨a, b⟩ | ⟨a, b⟩)
          · exact List.mem_cons_of_mem _ a
          · rw [b]; exact List.mem_cons_self
      · rw [if_neg g, List.mem_cons, mem_toggle x z h2, List.mem_cons]
        constructor
        · rintro (q | ⟨a, b⟩ | ⟨a, b⟩)
          · exact .inl ⟨.inl q, fun w => e (w.symm.trans q)⟩
          · exact .inl ⟨.inr a, b⟩
          · refine .inr ⟨?_, b⟩
            rintro (q | q)
            · exact e (b.symm.trans q)
            · exact a q
        · rintro (⟨a | a, b⟩ | ⟨a, b⟩)
          · exact .inl a
          · exact .inr (.inl ⟨a, b⟩)
          · exact .inr (.inr ⟨fun q => a (.inr q), b⟩)
theorem srt_toggle (x : P) : ∀ {l : List P}, Srt l → Srt (toggle x l)
  | [], _ => by simp [toggle, Srt]
  | y :: l, h => by
    obtain ⟨h1, h2⟩ := List.pairwise_cons.mp h
    unfold toggle
    by_cases e : x = y
    · rw [if_pos e]; exact h2
    · rw [if_neg e]
      by_cases g : x < y
      · rw [if_pos g]
        refine List.pairwise_cons.mpr ⟨fun z hz => ?_, h⟩
        rcases List.mem_cons.mp hz with q | q
        · rw [q]; exact g
        · exact List.lt_trans g (h1 z q)
      · rw [if_neg g]
        refine List.pairwise_cons.mpr ⟨fun z hz => ?_, srt_toggle x h2⟩
        rcases (mem_toggle x z h2).mp hz with ⟨a, _⟩ | ⟨_, b⟩
        · exact h1 z a
        · rw [b]; exact lt_tri e g
theorem srt_oddOf : ∀ (l : List P), Srt (oddOf l)
  | [] => List.Pairwise.nil
  | x :: l => srt_toggle x (srt_oddOf l)
theorem mem_oddOf (z : P) : ∀ (l : List P), z ∈ oddOf l ↔ l.count z % 2 = 1
  | [] => by simp [oddOf]
  | x :: l => by
    show z ∈ toggle x (oddOf l) ↔ _
    rw [mem_toggle x z (srt_oddOf l), mem_oddOf z l, List.count_cons]
    by_cases e : z = x
    · subst e
      simp
      omega
    · have : ¬ x = z := fun q => e q.symm
      simp [e, this]
theorem srt_ext : ∀ {l m : List P}, Srt l → Srt m → (∀ z, z ∈ l ↔ z ∈ m) → l = m
  | [], [], _, _, _ => rfl
  | [], y :: m, _, _, h => absurd ((h y).mpr List.mem_cons_self) (by simp)
  | x :: l, [], _, _, h => absurd ((h x).mp List.mem_cons_self) (by simp)
  | x :: l, y :: m, hl, hm, h => by
    obtain ⟨a1, a2⟩ := List.pairwise_cons.mp hl
    obtain ⟨b1, b2⟩ := List.pairwise_cons.mp hm
    have e : x = y := by
      rcases List.mem_cons.mp ((h x).mp List.mem_cons_self) with q | q
      · exact q
      · rcases List.mem_cons.mp ((h y).mpr List.mem_cons_self) with r | r
        · exact r.symm
        · exact absurd (List.lt_trans (a1 y r) (b1 x q)) (List.lt_irrefl x)
    subst e
    congr 1
    refine srt_ext a2 b2 fun z => ?_
    have n1 : x ∉ l := fun q => List.lt_irrefl x (a1 x q)
    have n2 : x ∉ m := fun q => List.lt_irrefl x (b1 x q)
    constructor
    · intro q
      rcases List.mem_cons.mp ((h z).mp (List.mem_cons_of_mem _ q)) with r | r
      · exact absurd (r ▸ q) n1
      · exact r
    · intro q
      rcases List.mem_cons.mp ((h z).mpr (List.mem_cons_of_mem _ q)) with r | r
      · exact absurd (r ▸ q) n2
      · exact r
/-- a sorted list of those that stand an odd number of times is oddOf -/
theorem oddOf_of {l ys : List P} (hs : Srt ys) (hm : ∀ z, z ∈ ys ↔ l.count z % 2 = 1) : ys = oddOf l :=
  srt_ext hs (srt_oddOf l) fun z => (hm z).trans (mem_oddOf z l).symm

def raisedM (s : List P) (k : Nat) : List P := oddOf (s.flatMap fun p => ways p k)
def halvedM (s : List P) : List P := (s.filter allOdd).map half
theorem half_lt : ∀ {x y : P}, x.length = y.length → allOdd x = true → allOdd y = true → x < y → half x < half y
  | [], [], _, _, _, h => absurd h (List.lt_irrefl _)
  | [], _ :: _, h, _, _, _ => by simp at h
  | _ :: _, [], h, _, _, _ => by simp at h
  | a :: x, b :: y, hl, ha, hb, h => by
    have ha' : a % 2 = 1 ∧ allOdd x = true := by unfold allOdd at ha ⊢; simpa using ha
    have hb' : b % 2 = 1 ∧ allOdd y = true := by unfold allOdd at hb ⊢; simpa using hb
    show (a / 2) :: half x < (b / 2) :: half y
    rw [List.cons_lt_cons_iff] at h ⊢
    rcases h with h | ⟨h1, h2⟩
    · exact .inl (by omega)
    · exact .inr ⟨by omega, half_lt (by simpa using hl) ha'.2 hb'.2 h2⟩
def LenN (n : Nat) (s : List P) : Prop := ∀ p ∈ s, p.length = n
theorem mem_raised {s : List P} {k : Nat} {z : P} (h : z ∈ raisedM s k) : ∃ p ∈ s, isWay p k z = true := by
  have h1 := (mem_oddOf z _).mp h
  have h2 : 0 < List.count z (s.flatMap fun p => ways p k) := by omega
  obtain ⟨p, hp, hz⟩ := List.mem_flatMap.mp (List.count_pos_iff.mp h2)
  exact ⟨p, hp, mem_ways.mp hz⟩
theorem lenN_raised {n : Nat} {s : List P} (k : Nat) (h : LenN n s) : LenN n (raisedM s k) := fun z hz => by
  obtain ⟨p, hp, hw⟩ := mem_raised hz
  rw [(way_len p k z hw).1]
  exact h p hp
theorem srt_halved {n : Nat} {s : List P} (hs : Srt s) (hn : LenN n s) : Srt (halvedM s) := by
  unfold halvedM Srt
  rw [List.pairwise_map]
  have h1 : Srt (s.filter allOdd) := List.Pairwise.sublist List.filter_sublist hs
  refine List.Pairwise.imp_of_mem (fun {a b} ha hb h => ?_) h1
  obtain ⟨a1, a2⟩ := List.mem_filter.mp ha
  obtain ⟨b1, b2⟩ := List.mem_filter.mp hb
  exact half_lt ((hn a a1).trans (hn b b1).symm) a2 b2 h
theorem mem_halved {s : List P} {q : P} : q ∈ halvedM s ↔ dbl q ∈ s := by
  unfold halvedM
  rw [List.mem_map]
  constructor
  · rintro ⟨p, hp, rfl⟩
    obtain ⟨a, b⟩ := List.mem_filter.mp hp
    rw [dbl_half b]
    exact a
  · intro h
    exact ⟨dbl q, List.mem_filter.mpr ⟨h, allOdd_dbl q⟩, half_dbl q⟩
theorem count_halved (k : Nat) (q : P) : ∀ (s : List P), (s.flatMap fun p => ways p (2 * k)).count (dbl q) = ((halvedM s).flatMap fun p => ways p k).count q
  | [] => rfl
  | p :: s => by
    rw [List.flatMap_cons, List.count_append, count_halved k q s, count_ways, way_dbl]
    unfold halvedM
    by_cases h : allOdd p = true
    · rw [List.filter_cons_of_pos h, List.map_cons, List.flatMap_cons, List.count_append, count_ways]
      simp [h]
    · rw [List.filter_cons_of_neg h]
      simp [h]
/-- raised by twice the part and halved: halved and raised by the part -/
theorem halved_raised {n : Nat} {s : List P} (k : Nat) (hn : LenN n s) : halvedM (raisedM s (2 * k)) = raisedM (halvedM s) k := by
  refine oddOf_of (srt_halved (srt_oddOf _) (lenN_raised (2 * k) hn)) fun q => ?_
  rw [mem_halved]
  unfold raisedM
  rw [mem_oddOf, count_halved]
/-- raised by an odd part, none has odd exponents alone -/
theorem none_odd {s : List P} {k : Nat} (hk : k % 2 = 1) {z : P} (h : z ∈ raisedM s k) : allOdd z = false := by
  obtain ⟨p, _, hw⟩ := mem_raised h
  cases e : allOdd z with
  | false => rfl
  | true =>
    have := odd_part p k z hw e
    omega
theorem halved_nil {l : List P} (h : ∀ z ∈ l, allOdd z = false) : halvedM l = [] := by
  unfold halvedM
  rw [List.filter_eq_nil_iff.mpr fun z hz => by rw [h z hz]; decide]
  rfl
end Rz
-- part Mtb
set_option Elab.async false
set_option linter.all false
set_option maxRecDepth 100000
/-! The plain law, second part: all products, places, spaces. -/
namespace Rz
/-! ### all products of a degree -/
def allQ : Nat → Nat → List P
  | 0, d => [[d]]
  | m + 1, d => (List.range (d + 1)).flatMap fun e => (allQ m (d - e)).map (e :: ·)
def allP (n d : Nat) : List P := allQ (n - 1) d
theorem mem_allQ : ∀ (m d : Nat) (x : P), x ∈ allQ m d ↔ x.length = m + 1 ∧ x.sum = d
  | 0, d, x => by
    show x ∈ [[d]] ↔ _
    rw [List.mem_singleton]
    constructor
    · rintro rfl; simp
    · rintro ⟨h1, h2⟩
      match x, h1, h2 with
      | [e], _, h2 =>
        simp at h2
        rw [h2]
  | m + 1, d, x => by
    show x ∈ (List.range (d + 1)).flatMap (fun e => (allQ m (d - e)).map (e :: ·)) ↔ _
    rw [List.mem_flatMap]
    constructor
    · rintro ⟨e, he, hx⟩
      obtain ⟨y, hy, rfl⟩ := List.mem_map.mp hx
      obtain ⟨h1, h2⟩ := (mem_allQ m (d - e) y).mp hy
      have := List.mem_range.mp he
      refine ⟨by simp [h1], ?_⟩
      rw [List.sum_cons, h2]
      omega
    · rintro ⟨h1, h2⟩
      match x, h1, h2 with
      | e :: y, h1, h2 =>
        rw [List.sum_cons] at h2
        exact ⟨e, List.mem_range.mpr (by omega), List.mem_map.mpr ⟨y, (mem_allQ m (d - e) y).mpr ⟨by simpa using h1, by omega⟩, rfl⟩⟩
theorem mem_allP {n d : Nat} {x : P} (hn : 1 ≤ n) : x ∈ allP n d ↔ x.length = n ∧ x.sum = d := by
  unfold allP
  rw [mem_allQ, show n - 1 + 1 = n by omega]
theorem nodup_flat {α β : Type} {f : α → List β} : ∀ {l : List α}, l.Nodup → (∀ a ∈ l, (f a).Nodup) → (∀ a ∈ l, ∀ b ∈ l, a ≠ b → ∀ x ∈ f a, x ∉ f b) → (l.flatMap f).Nodup
  | [], _, _, _ => List.nodup_nil
  | a :: l, h, h1, h2 => by
    obtain ⟨g1, g2⟩ := List.nodup_cons.mp h
    rw [List.flatMap_cons]
    refine List.nodup_append.mpr ⟨h1 a List.mem_cons_self, nodup_flat g2 (fun b hb => h1 b (List.mem_cons_of_mem _ hb)) fun b hb c hc => h2 b (List.mem_cons_of_mem _ hb) c (List.mem_cons_of_mem _ hc), fun x hx y hy e => ?_⟩
    subst e
    obtain ⟨b, hb, hxb⟩ := List.mem_flatMap.mp hy
    exact h2 a List.mem_cons_self b (List.mem_cons_of_mem _ hb) (fun q => g1 (q ▸ hb)) x hx hxb
theorem nodup_allQ : ∀ (m d : Nat), (allQ m d).Nodup
  | 0, d => by show ([[d]] : List P).Nodup; simp
  | m + 1, d => by
    refine nodup_flat List.nodup_range (fun e _ => ?_) fun a _ b _ hab x hx hy => ?_
    · show ((allQ m (d - e)).map (e :: ·)).Nodup
      unfold List.Nodup
      rw [List.pairwise_map]
      exact (nodup_allQ m (d - e)).imp fun h q => h (List.cons.inj q).2
    · obtain ⟨y, _, rfl⟩ := List.mem_map.mp hx
      obtain ⟨z, _, e⟩ := List.mem_map.mp hy
      exact hab (List.cons.inj e).1.symm
theorem nodup_allP (n d : Nat) : (allP n d).Nodup := nodup_allQ _ _

/-! ### a sum as a number -/
def plc (L : List P) (p : P) : Nat := L.idxOf p
def numX (L : List P) : List P → Nat
  | [] => 0
  | p :: l => numX L l ^^^ 2 ^ plc L p
theorem numX_append (L : List P) : ∀ a b : List P, numX L (a ++ b) = numX L a ^^^ numX L b
  | [], b => by simp [numX]
  | p :: a, b => by
    show numX L (a ++ b) ^^^ _ = (numX L a ^^^ _) ^^^ numX L b
    rw [numX_append L a b, Nat.xor_assoc, Nat.xor_comm (numX L b), ← Nat.xor_assoc]
theorem numX_toggle (L : List P) (x : P) : ∀ l : List P, numX L (toggle x l) = numX L l ^^^ 2 ^ plc L x
  | [] => rfl
  | y :: l => by
    unfold toggle
    by_cases e : x = y
    · subst e
      rw [if_pos rfl]
      show _ = (numX L l ^^^ 2 ^ plc L x) ^^^ 2 ^ plc L x
      rw [Nat.xor_assoc, Nat.xor_self, Nat.xor_zero]
    · rw [if_neg e]
      by_cases g : x < y
      · rw [if_pos g]
        rfl
      · rw [if_neg g]
        show numX L (toggle x l) ^^^ _ = (numX L l ^^^ _) ^^^ _
        rw [numX_toggle L x l, Nat.xor_assoc, Nat.xor_comm (2 ^ plc L x), ← Nat.xor_assoc]
theorem numX_oddOf (L : List P) : ∀ l : List P, numX L (oddOf l) = numX L l
  | [] => rfl
  | x :: l => by
    show numX L (toggle x (oddOf l)) = _
    rw [numX_toggle, numX_oddOf L l]
    rfl
/-! adding a power whose digit is not there -/
theorem xor_mod (a b : Nat) : (a ^^^ b) % 2 = (a % 2 + b % 2) % 2 := by
  have h := Nat.testBit_xor a b 0
  rw [Nat.testBit_zero, Nat.testBit_zero, Nat.testBit_zero] at h
  have h1 : a % 2 = 0 ∨ a % 2 = 1 := by omega
  have h2 : b % 2 = 0 ∨ b % 2 = 1 := by omega
  have h3 : (a ^^^ b) % 2 = 0 ∨ (a ^^^ b) % 2 = 1 := by omega
  rcases h1 with h1 | h1 <;> rcases h2 with h2 | h2 <;> rcases h3 with h3 | h3 <;> simp [h1, h2, h3] at h ⊢
theorem xor_half (a b : Nat) : (a ^^^ b) / 2 = (a / 2) ^^^ (b / 2) := by
  apply Nat.eq_of_testBit_eq
  intro i
  rw [Nat.testBit_xor, Nat.testBit_div_two, Nat.testBit_div_two, Nat.testBit_div_two, Nat.testBit_xor]
theorem add_pow : ∀ (k a : Nat), a.testBit k = false → a + 2 ^ k = a ^^^ 2 ^ k
  | 0, a, h => by
    rw [Nat.testBit_zero] at h
    have h' : a % 2 = 0 := by
      have : ¬ a % 2 = 1 := by simpa using h
      omega
    have e1 := xor_mod a (2 ^ 0)
    have e2 := xor_half a (2 ^ 0)
    have e3 : (2 ^ 0 : Nat) / 2 = 0 := rfl
    have e4 : (2 ^ 0 : Nat) = 1 := rfl
    rw [e3, Nat.xor_zero] at e2
    omega
  | k + 1, a, h => by
    have h' : (a / 2).testBit k = false := by
      rw [Nat.testBit_div_two]
      exact h
    have ih := add_pow k (a / 2) h'
    have e1 := xor_mod a (2 ^ (k + 1))
    have e2 := xor_half a (2 ^ (k + 1))
    have e3 : (2 ^ (k + 1) : Nat) / 2 = 2 ^ k := by rw [Nat.pow_succ]; omega
    have e4 : (2 ^ (k + 1) : Nat) = 2 ^ k * 2 := Nat.pow_succ ..
    rw [e3, ← ih] at e2
    omega
theorem plc_inj {L : List P} {p q : P} (hp : p ∈ L) (hq : q ∈ L) (h : plc L p = plc L q) : p = q := by
  unfold plc at h
  have h1 := List.getElem_idxOf (List.idxOf_lt_length_of_mem hp)
  have h2 := List.getElem_idxOf (List.idxOf_lt_length_of_mem hq)
  rw [← h1, ← h2]
  simp only [h]
theorem bit_numX {L : List P} {q : P} (hq : q ∈ L) : ∀ {l : List P}, l.Nodup → (∀ p ∈ l, p ∈ L) → (numX L l).testBit (plc L q) = decide (q ∈ l)
  | [], _, _ => by simp [numX]
  | p :: l, h, hl => by
    obtain ⟨h1, h2⟩ := List.nodup_cons.mp h
    show (numX L l ^^^ 2 ^ plc L p).testBit (plc L q) = _
    rw [Nat.testBit_xor, bit_numX hq h2 fun r hr => hl r (List.mem_cons_of_mem _ hr), Nat.testBit_two_pow]
    by_cases e : q = p
    · subst e
      simp [h1]
    · have : ¬ plc L p = plc L q := fun z => e (plc_inj hq (hl p List.mem_cons_self) z.symm)
      simp [e, this]
/-- the sum of the powers is the number -/
theorem sum_numX {L : List P} : ∀ {l : List P}, l.Nodup → (∀ p ∈ l, p ∈ L) → (l.map fun p => 2 ^ plc L p).sum = numX L l
  | [], _, _ => rfl
  | p :: l, h, hl => by
    obtain ⟨h1, h2⟩ := List.nodup_cons.mp h
    have hl' : ∀ r ∈ l, r ∈ L := fun r hr => hl r (List.mem_cons_of_mem _ hr)
    rw [List.map_cons, List.sum_cons, sum_numX h2 hl', Nat.add_comm]
    show _ = numX L l ^^^ 2 ^ plc L p
    refine add_pow _ _ ?_
    rw [bit_numX (hl p List.mem_cons_self) h2 hl']
    simp [h1]

/-! ### taking leads off -/
def stepL (x : Nat) (lv : Nat × Nat) : Nat := if x.testBit lv.1 then x ^^^ lv.2 else x
def leftM (S : List (Nat × Nat)) (x : Nat) : Nat := S.foldl stepL x
theorem stepL_xor (a b : Nat) (lv : Nat × Nat) : stepL (a ^^^ b) lv = stepL a lv ^^^ stepL b lv := by
  unfold stepL
  rw [Nat.testBit_xor]
  cases a.testBit lv.1 <;> cases b.testBit lv.1
  · simp
  · simp [Nat.xor_assoc]
  · simp only [Bool.xor_false, if_true, Bool.false_eq_true, if_false]
    rw [Nat.xor_assoc, Nat.xor_comm b, ← Nat.xor_assoc]
  · simp only [Bool.xor_self, if_true, Bool.false_eq_true, if_false]
    rw [Nat.xor_assoc, ← Nat.xor_assoc lv.2 b, Nat.xor_comm lv.2 b, Nat.xor_assoc b, Nat.xor_self, Nat.xor_zero]
theorem leftM_xor : ∀ (S : List (Nat × Nat)) (a b : Nat), leftM S (a ^^^ b) = leftM S a ^^^ leftM S b
  | [], _, _ => rfl
  | lv :: S, a, b => by
    show leftM S (stepL (a ^^^ b) lv) = leftM S (stepL a lv) ^^^ leftM S (stepL b lv)
    rw [stepL_xor, leftM_xor S]
theorem leftM_zero (S : List (Nat × Nat)) : leftM S 0 = 0 := by
  have := leftM_xor S 0 0
  rw [Nat.xor_self, Nat.xor_self] at this
  exact this
/-- put in at its place, the greatest lead first; what stood there is gone -/
def insD (l v : Nat) : List (Nat × Nat) → List (Nat × Nat)
  | [] => [(l, v)]
  | (m, u) :: S => if m = l then (l, v) :: S else if m < l then (l, v) :: (m, u) :: S else (m, u) :: insD l v S
def putR (S : List (Nat × Nat)) (r : Nat) : List (Nat × Nat) := if r = 0 then S else insD r.log2 r S
def putM (S : List (Nat × Nat)) (x : Nat) : List (Nat × Nat) := putR S (leftM S x)
def parts : List Nat := [1, 2, 4, 8, 16]
def putAll (L : List P) (k : Nat) (ps : List P) (S : List (Nat × Nat)) : List (Nat × Nat) := ps.foldl (fun S p => putM S (numX L (ways p k))) S
def spaceM (n d : Nat) : List (Nat × Nat) := parts.foldl (fun S k => if k ≤ d then putAll (allP n d) k (allP n (d - k)) S else S) []
def freeM (n d : Nat) : List Nat := (List.range (allP n d).length).filter fun i => !(spaceM n d).any fun lv => lv.1 == i
def rowsM (n d : Nat) : Nat := (freeM n d).length
/-- a raised sum is taken off whole -/
theorem left_raised {L : List P} {S : List (Nat × Nat)} {k : Nat} : ∀ {s : List P}, (∀ p ∈ s, leftM S (numX L (ways p k)) = 0) → leftM S (numX L (raisedM s k)) = 0 := by
  intro s h
  unfold raisedM
  rw [numX_oddOf]
  induction s with
  | nil => exact leftM_zero S
  | cons p s ih =>
    rw [List.flatMap_cons, numX_append, leftM_xor, h p List.mem_cons_self, ih fun q hq => h q (List.mem_cons_of_mem _ hq), Nat.xor_self]
end Rz
-- part Mtc
set_option Elab.async false
set_option linter.all false
namespace Rz
/-! ### ways from the left -/
def wayStep (e : Nat) (ws : List (P × Nat)) : List (P × Nat) := ws.flatMap fun w => (steps e w.2).map fun j => (w.1 ++ [e + j], w.2 - j)
def wayL (p : P) (ws : List (P × Nat)) : List (P × Nat) := p.foldl (fun ws e => wayStep e ws) ws
theorem wayL_snoc (p : P) (e : Nat) (ws : List (P × Nat)) : wayL (p ++ [e]) ws = wayStep e (wayL p ws) := by
  unfold wayL
  rw [List.foldl_append]
  rfl
theorem wayStep_app (e : Nat) (a b : List (P × Nat)) : wayStep e (a ++ b) = wayStep e a ++ wayStep e b := List.flatMap_append
theorem wayStep_one (e : Nat) (w : P × Nat) : wayStep e [w] = (steps e w.2).map fun j => (w.1 ++ [e + j], w.2 - j) := by
  unfold wayStep
  rw [List.flatMap_cons, List.flatMap_nil, List.append_nil]
theorem wayL_ways : ∀ (p : P) (ws : List (P × Nat)), ((wayL p ws).filter fun w => w.2 == 0).map (·.1) = ws.flatMap fun w => (ways p w.2).map (w.1 ++ ·)
  | [], ws => by
    show (ws.filter fun w => w.2 == 0).map (·.1) = _
    induction ws with
    | nil => rfl
    | cons w ws ih =>
      rw [List.flatMap_cons, ← ih]
      by_cases h : w.2 = 0
      · rw [List.filter_cons_of_pos (by simp [h]), List.map_cons]
        simp [ways, h]
      · rw [List.filter_cons_of_neg (by simp [h])]
        simp [ways, h]
  | e :: p, ws => by
    show ((wayL p (wayStep e ws)).filter fun w => w.2 == 0).map (·.1) = _
    rw [wayL_ways p]
    unfold wayStep
    rw [List.flatMap_assoc]
    congr 1
    funext w
    rw [List.flatMap_map]
    show _ = ((steps e w.2).flatMap fun j => (ways p (w.2 - j)).map fun q => (e + j) :: q).map (w.1 ++ ·)
    rw [List.map_flatMap]
    congr 1
    funext j
    rw [List.map_map]
    congr 1
    funext q
    simp
theorem wayL_start (p : P) (k : Nat) : ((wayL p [([], k)]).filter fun w => w.2 == 0).map (·.1) = ways p k := by
  rw [wayL_ways, List.flatMap_cons, List.flatMap_nil, List.append_nil]
  show (ways p k).map (fun q => [] ++ q) = ways p k
  simp
theorem steps_len (e k : Nat) : (steps e k).length ≤ k + 1 := by
  unfold steps
  have h := List.length_filter_le (fun j => e &&& j == j) (List.range (min e k + 1))
  rw [List.length_range] at h
  omega
theorem wayStep_small {k e : Nat} : ∀ {ws : List (P × Nat)}, (∀ w ∈ ws, w.2 ≤ k) → ∀ w ∈ wayStep e ws, w.2 ≤ k := by
  intro ws h w hw
  obtain ⟨u, hu, hj⟩ := List.mem_flatMap.mp hw
  obtain ⟨j, _, rfl⟩ := List.mem_map.mp hj
  have := h u hu
  show u.2 - j ≤ k
  omega
theorem wayStep_len {k e : Nat} : ∀ {ws : List (P × Nat)}, (∀ w ∈ ws, w.2 ≤ k) → (wayStep e ws).length ≤ (k + 1) * ws.length
  | [], _ => by simp [wayStep]
  | w :: ws, h => by
    have h1 := wayStep_len (e := e) (ws := ws) fun u hu => h u (List.mem_cons_of_mem _ hu)
    have h2 := steps_len e w.2
    have h3 := h w List.mem_cons_self
    show (wayStep e ([w] ++ ws)).length ≤ _
    rw [wayStep_app, List.length_append, wayStep_one, List.length_map, List.length_cons, Nat.mul_succ]
    omega
theorem wayL_small {k : Nat} : ∀ (p : P) {ws : List (P × Nat)}, (∀ w ∈ ws, w.2 ≤ k) → ∀ w ∈ wayL p ws, w.2 ≤ k
  | [], _, h => h
  | e :: p, ws, h => wayL_small p (ws := wayStep e ws) (wayStep_small h)
theorem wayL_len {k : Nat} : ∀ (p : P) {ws : List (P × Nat)}, (∀ w ∈ ws, w.2 ≤ k) → (wayL p ws).length ≤ (k + 1) ^ p.length * ws.length
  | [], ws, h => by simp [wayL]
  | e :: p, ws, h => by
    have h1 := wayL_len p (ws := wayStep e ws) (wayStep_small h)
    have h2 := wayStep_len (e := e) h
    show (wayL p (wayStep e ws)).length ≤ _
    rw [List.length_cons, Nat.pow_succ, Nat.mul_assoc]
    exact Nat.le_trans h1 (Nat.mul_le_mul_left _ h2)
theorem wayStep_glen {a e : Nat} {ws : List (P × Nat)} (h : ∀ w ∈ ws, w.1.length ≤ a) : ∀ w ∈ wayStep e ws, w.1.length ≤ a + 1 := by
  intro w hw
  obtain ⟨u, hu, hj⟩ := List.mem_flatMap.mp hw
  obtain ⟨j, _, rfl⟩ := List.mem_map.mp hj
  have := h u hu
  show (u.1 ++ [e + j]).length ≤ a + 1
  rw [List.length_append, List.length_singleton]
  omega
theorem wayL_glen : ∀ (p : P) {a : Nat} {ws : List (P × Nat)}, (∀ w ∈ ws, w.1.length ≤ a) → ∀ w ∈ wayL p ws, w.1.length ≤ a + p.length
  | [], a, ws, h => h
  | e :: p, a, ws, h => fun w hw => by
    have := wayL_glen p (wayStep_glen (e := e) h) w hw
    rw [List.length_cons]
    omega
theorem start_glen (k : Nat) : ∀ w ∈ [(([] : P), k)], w.1.length ≤ 0 := by
  intro w hw
  rw [List.mem_singleton.mp hw]
  exact Nat.le_refl 0
theorem start_small (k : Nat) : ∀ w ∈ [(([] : P), k)], w.2 ≤ k := by
  intro w hw
  rw [List.mem_singleton.mp hw]
  exact Nat.le_refl k
theorem wayL_bound (p : P) (k : Nat) (i : Nat) : (wayL (p.take i) [([], k)]).length ≤ (k + 1) ^ p.length := by
  have h := wayL_len (p.take i) (start_small k)
  rw [List.length_singleton, Nat.mul_one, List.length_take] at h
  exact Nat.le_trans h (Nat.pow_le_pow_right (by omega) (by omega))
theorem wayStep_bound (p : P) (k : Nat) {i e : Nat} (he : p[i]? = some e) (j : Nat) : (wayStep e ((wayL (p.take i) [([], k)]).take j)).length ≤ (k + 1) ^ p.length := by
  have h0 := wayL_small (p.take i) (start_small k)
  have h1 := wayStep_len (e := e) (ws := (wayL (p.take i) [([], k)]).take j) fun w hw => h0 w (List.mem_of_mem_take hw)
  have h2 := wayL_len (p.take i) (start_small k)
  have hi : i < p.length := (List.getElem?_eq_some_iff.mp he).1
  rw [List.length_singleton, Nat.mul_one, List.length_take] at h2
  have h3 : ((wayL (p.take i) [([], k)]).take j).length ≤ (k + 1) ^ (min i p.length) := Nat.le_trans (by rw [List.length_take]; omega) h2
  have h4 : (k + 1) * (k + 1) ^ (min i p.length) ≤ (k + 1) ^ p.length := by
    rw [Nat.mul_comm, ← Nat.pow_succ]
    exact Nat.pow_le_pow_right (by omega) (by omega)
  exact Nat.le_trans h1 (Nat.le_trans (Nat.mul_le_mul_left _ h3) h4)
theorem ways_len (p : P) (k : Nat) : (ways p k).length ≤ (k + 1) ^ p.length := by
  rw [← wayL_start, List.length_map]
  have h := wayL_bound p k p.length
  rw [List.take_length] at h
  exact Nat.le_trans (List.length_filter_le _ _) h
end Rz
-- part Mtk4
set_option Elab.async false
set_option linter.all false
set_option maxRecDepth 1000000
namespace Rz
theorem chk4a : ∀ l < 12, rowsM 1 l ≤ rowsM 1 (2 * l + 1) := by decide +kernel
theorem chk4b : ∀ l < 12, rowsM 2 l ≤ rowsM 2 (2 * l + 2) := by decide +kernel
theorem chk4d : ∀ l < 3, rowsM 4 l ≤ rowsM 4 (2 * l + 4) := by decide +kernel
theorem chk4e : ∀ l < 1, rowsM 5 l ≤ rowsM 5 (2 * l + 5) := by decide +kernel
end Rz
-- part Mtk5
set_option Elab.async false
set_option linter.all false
set_option maxRecDepth 1000000
namespace Rz
theorem chk4c : ∀ l < 8, rowsM 3 l ≤ rowsM 3 (2 * l + 3) := by decide +kernel
end Rz
-- part Wb
set_option Elab.async false
set_option linter.all false
set_option maxRecDepth 100000
namespace Rz
open PySem L2
/-! ### the text by places -/
def top (i : Nat) : Stmt := PySem.Challenge.pw_raisedsums_k62_whole_halving.main.body.getD i (.Pass ⟨0, 0, 0, 0⟩)
abbrev sHalved : Stmt := top 1
abbrev sIsWhole : Stmt := top 8
abbrev sSop : Stmt := top 9
abbrev sDegrees : Stmt := top 10
abbrev sOddWays : Stmt := top 12
abbrev sSteps : Stmt := top 13
abbrev sRaisedProduct : Stmt := top 14
abbrev sLookR : Stmt := top 15
abbrev sRaised : Stmt := top 17
abbrev sLookL : Stmt := top 19
abbrev sInit : Stmt := inClass (top 22) 0
abbrev sNumberOf : Stmt := inClass (top 22) 1
abbrev sLeftOf : Stmt := inClass (top 22) 2
abbrev sPut : Stmt := inClass (top 22) 3
abbrev sMadeOf : Stmt := inClass (top 22) 4
abbrev sRowAgainst : Stmt := inClass (top 22) 5
abbrev sWithoutLead : Stmt := inClass (top 22) 6
abbrev sCounted : Stmt := top 29
abbrev sIsRoom : Stmt := top 30
abbrev sLookRoom : Stmt := top 31
abbrev sAllProducts : Stmt := top 32
abbrev sRaisedSpace : Stmt := top 33
abbrev sOneDegree : Stmt := top 34
abbrev sPairsOf : Stmt := top 35
abbrev sJudged : Stmt := top 36
abbrev sRowsCounted : Stmt := top 37
abbrev sStanding : Stmt := top 38
abbrev sBag : Stmt := top 40
abbrev sTake : Stmt := top 41
abbrev sOdd : Stmt := top 42
abbrev sOfDegree : Stmt := top 43
abbrev sSumOf : Stmt := top 44
abbrev sLawRaised : Stmt := top 45
abbrev sSome : Stmt := top 46
abbrev sLaw : Stmt := top 47
def nameOf (s : Stmt) : Str := match s with
  | .FunctionDef n _ _ _ _ _ _ _ _ _ => n
  | .ClassDef n _ _ _ _ _ _ _ _ _ _ => n
  | _ => "-"

/-! ### data in the heap -/
def pvs (p : P) : List V := p.map fun e => V.int (e : Nat)
def pks (p : P) : List Key := p.map fun e => Sum.inl ((e : Nat) : Int)
theorem pks_kV (p : P) : (pks p).map kV = pvs p := by
  unfold pks pvs
  rw [List.map_map]
  rfl
theorem pks_inj : ∀ {p q : P}, pks p = pks q → p = q
  | [], [], _ => rfl
  | [], _ :: _, h => by cases h
  | _ :: _, [], h => by cases h
  | a :: p, b :: q, h => by
    have h' : (Sum.inl ((a : Nat) : Int) : Key) :: pks p = Sum.inl ((b : Nat) : Int) :: pks q := h
    injection h' with h1 h2
    have h3 : ((a : Nat) : Int) = ((b : Nat) : Int) := Sum.inl.inj h1
    rw [pks_inj h2, Int.ofNat.inj h3]
theorem pvs_inj : ∀ {p q : P}, pvs p = pvs q → p = q
  | [], [], _ => rfl
  | [], _ :: _, h => by cases h
  | _ :: _, [], h => by cases h
  | a :: p, b :: q, h => by
    have h' : V.int ((a : Nat) : Int) :: pvs p = V.int ((b : Nat) : Int) :: pvs q := h
    injection h' with h1 h2
    have h3 : ((a : Nat) : Int) = ((b : Nat) : Int) := V.int.inj h1
    rw [pvs_inj h2, Int.ofNat.inj h3]
theorem pvs_len (p : P) : (pvs p).length = p.length := List.length_map _
theorem pvs_app (p q : P) : pvs (p ++ q) = pvs p ++ pvs q := List.map_append
theorem pvs_get {p : P} {i : Nat} {x : V} (h : (pvs p)[i]? = some x) : ∃ e : Nat, p[i]? = some e ∧ x = V.int (e : Nat) := by
  unfold pvs at h
  rw [List.getElem?_map] at h
  cases e : p[i]? with
  | none => rw [e] at h; cases h
  | some u => rw [e] at h; exact ⟨u, rfl, (Option.some.inj h).symm⟩
/-- all tuples stay -/
def Tups (H H' : Hp) : Prop := ∀ b xs, H b = some (.tup xs) → H' b = some (.tup xs)
theorem Tups.refl (H : Hp) : Tups H H := fun _ _ h => h
theorem Tups.trans {H H1 H2 : Hp} (a : Tups H H1) (b : Tups H1 H2) : Tups H H2 := fun c x h => b c x (a c x h)
theorem Tups.of {H H' : Hp} (s : Same H H') : Tups H H' := fun b xs h => s b _ h
theorem Same.fresh {H : Hp} {p : Addr} {o : HO} (h : H p = none) : Same H (upd H p o) := fun b u e => by rw [upd_ne (ne_of_none e h)]; exact e
/-- an object that H does not know is changed -/
theorem Same.put {H0 H : Hp} {l : Addr} {o : HO} (s : Same H0 H) (h : H0 l = none) : Same H0 (upd H l o) := fun b u e => by rw [upd_ne (ne_of_none e h)]; exact s b u e
def notTup : HO → Prop
  | .tup _ => False
  | _ => True
theorem Tups.put {H : Hp} {l : Addr} {u o : HO} (h : H l = some u) (n : notTup u) : Tups H (upd H l o) := fun b xs e => by
  by_cases q : b = l
  · subst q
    rw [h] at e
    cases e
    exact n.elim
  · rw [upd_ne q]; exact e
theorem Tups.fresh {H : Hp} {p : Addr} {o : HO} (h : H p = none) : Tups H (upd H p o) := Tups.of (Same.fresh h)

def IsP (H : Hp) (x : V) (p : P) : Prop := ∃ t, x = .ref t ∧ H t = some (.tup (pvs p))
def IsS (H : Hp) (x : V) (ps : List P) : Prop := ∃ t xs, x = .ref t ∧ H t = some (.tup xs) ∧ Paired (IsP H) xs ps
def IsW (H : Hp) (x : V) (w : P × Nat) : Prop := ∃ t u, x = .ref t ∧ H t = some (.tup [.ref u, .int (w.2 : Nat)]) ∧ H u = some (.tup (pvs w.1))
theorem IsP.mono {H H' : Hp} (s : Tups H H') {x : V} {p : P} (h : IsP H x p) : IsP H' x p := by
  obtain ⟨t, e, h⟩ := h
  exact ⟨t, e, s _ _ h⟩
theorem IsW.mono {H H' : Hp} (s : Tups H H') {x : V} {p : P × Nat} (h : IsW H x p) : IsW H' x p := by
  obtain ⟨t, u, e, h, g⟩ := h
  exact ⟨t, u, e, s _ _ h, s _ _ g⟩
theorem Prs.mono {H H' : Hp} (s : Tups H H') {xs : List V} {ps : List P} (h : Paired (IsP H) xs ps) : Paired (IsP H') xs ps := Paired.mapP h fun _ _ h => h.mono s
theorem Prw.mono {H H' : Hp} (s : Tups H H') {xs : List V} {ps : List (P × Nat)} (h : Paired (IsW H) xs ps) : Paired (IsW H') xs ps := Paired.mapP h fun _ _ h => h.mono s
theorem IsS.mono {H H' : Hp} (s : Tups H H') {x : V} {ps : List P} (h : IsS H x ps) : IsS H' x ps := by
  obtain ⟨t, xs, e, h, g⟩ := h
  exact ⟨t, xs, e, s _ _ h, Prs.mono s g⟩
section
variable {α β : Type} {F : α → β → Prop}
theorem Pd.app : ∀ {xs xs' : List α} {ys ys' : List β}, Paired F xs ys → Paired F xs' ys' → Paired F (xs ++ xs') (ys ++ ys')
  | _, _, _, _, .nil, h => h
  | _, _, _, _, .cons r t, h => .cons r (Pd.app t h)
theorem Pd.get : ∀ {xs : List α} {ys : List β} {i : Nat} {x : α}, Paired F xs ys → xs[i]? = some x → ∃ y, ys[i]? = some y ∧ F x y
  | _, _, _, _, .nil, e => by simp at e
  | _, _, 0, _, .cons r _, e => by simp at e; subst e; exact ⟨_, rfl, r⟩
  | _, _, i + 1, x, .cons _ t, e => by
    obtain ⟨u, h1, h2⟩ := Pd.get (i := i) (x := x) t (by simpa using e)
    exact ⟨u, by simpa using h1, h2⟩
theorem Pd.mem : ∀ {xs : List α} {ys : List β} {x : α}, Paired F xs ys → x ∈ xs → ∃ y, y ∈ ys ∧ F x y
  | _, _, _, .nil, e => by simp at e
  | _, _, _, .cons r t, e => by
    rcases List.mem_cons.mp e with q | q
    · subst q; exact ⟨_, List.mem_cons_self, r⟩
    · obtain ⟨y, h1, h2⟩ := Pd.mem t q
      exact ⟨y, List.mem_cons_of_mem _ h1, h2⟩
theorem Pd.take : ∀ (n : Nat) {xs : List α} {ys : List β}, Paired F xs ys → Paired F (xs.take n) (ys.take n)
  | 0, _, _, _ => .nil
  | _ + 1, _, _, .nil => .nil
  | n + 1, _, _, .cons r t => .cons r (Pd.take n t)
theorem Pd.drop : ∀ (n : Nat) {xs : List α} {ys : List β}, Paired F xs ys → Paired F (xs.drop n) (ys.drop n)
  | 0, _, _, h => h
  | _ + 1, _, _, .nil => .nil
  | n + 1, _, _, .cons r t => Pd.drop n t
theorem Pd.map {γ : Type} {G : α → γ → Prop} (f : β → γ) (hf : ∀ a b, F a b → G a (f b)) : ∀ {xs : List α} {ys : List β}, Paired F xs ys → Paired G xs (ys.map f)
  | _, _, .nil => .nil
  | _, _, .cons r t => .cons (hf _ _ r) (Pd.map f hf t)
/-- a rearrangement of the one side goes with one of the other -/
theorem Pd.perm {xs ys : List α} (p : ys.Perm xs) : ∀ {bs : List β}, Paired F xs bs → ∃ cs, cs.Perm bs ∧ Paired F ys cs := by
  induction p with
  | nil => intro bs h; cases h; exact ⟨[], List.Perm.nil, .nil⟩
  | cons x _ ih =>
    intro bs h
    cases h with
    | cons r t =>
      obtain ⟨cs, h1, h2⟩ := ih t
      exact ⟨_ :: cs, h1.cons _, .cons r h2⟩
  | swap x y l =>
    intro bs h
    cases h with
    | cons r t =>
      cases t with
      | cons r2 t2 => exact ⟨_, List.Perm.swap _ _ _, .cons r2 (.cons r t2)⟩
  | trans _ _ ih1 ih2 =>
    intro bs h
    obtain ⟨cs, h1, h2⟩ := ih2 h
    obtain ⟨ds, h3, h4⟩ := ih1 h2
    exact ⟨ds, h3.trans h1, h4⟩
end

/-! ### a comprehension that makes data of data -/
theorem take_snoc {α : Type} {l : List α} {i : Nat} {d : α} (h : l[i]? = some d) : l.take (i + 1) = l.take i ++ [d] := by
  rw [List.take_add_one, h]
  rfl
section
variable {α β : Type} {J : It} {n : Nat} {G : Hp → Prop} {Y : Nat → Hp → V → Hp → Prop}
theorem lc_data (w : Walk J n G Y) {g : TG} {tt : TT} {te : TE} {vs : List Nat} {σ : St} {H1 : Hp} {D : Addr} {Qd : Hp → Prop} (ds : List α) (f : α → Bool) (k : α → β) (R : Hp → V → β → Prop)
    (hn : ds.length = n) (hz : n ≤ sizeLine) (hD : H1 D = none) (mono : ∀ H H' v b, Tups H H' → R H v b → R H' v b) (hG : ∀ H, Same H1 H → G H)
    (step : ∀ i x H H' d, ds[i]? = some d → Same H1 H → Y i H x H' → ∀ (Z : VK) (N : Hp → Prop), (∀ y H4, f d = true → Same H H4 → R H4 y (k d) → Z y H4) → (∀ H4, f d = false → Same H H4 → N H4) →
      g x (wipe σ vs) H' fun σ2 H2 => wipe σ2 vs = wipe σ vs ∧ tt σ2 H2 fun b H3 => if b = true then te σ2 H3 Z else N H3)
    (hd : ∀ H ys, Same H1 H → H D = some (.lst ys) → Paired (R H) ys ((ds.filter f).map k) → Qd H) :
    ∃ W : Nat → Nat → Hp → Prop, (∃ m, W 0 m (upd H1 D (.lst []))) ∧ ∀ i m H, W i m H →
      (J.stop i H ∧ Qd H) ∨ (J.go i H ∧ ∃ Nx : Hp → Prop, (∀ H', Nx H' → ∃ m', m' < m ∧ W (i + 1) m' H') ∧ ∀ x H', J.yld i H x H' → g x (wipe σ vs) H' fun σ2 H2 => wipe σ2 vs = wipe σ vs ∧ tt σ2 H2 fun b H3 =>
        if b = true then te σ2 H3 fun y H4 => ∃ acc, H4 D = some (.lst acc) ∧ acc.length < sizeLine ∧ Nx (upd H4 D (.lst (acc ++ [y]))) else Nx H3) := by
  refine lc_it w (fun i H => i ≤ n ∧ Same H1 H ∧ ∃ ys, H D = some (.lst ys) ∧ ys.length ≤ i ∧ Paired (R H) ys (((ds.take i).filter f).map k)) ⟨Nat.zero_le _, Same.fresh hD, [], upd_same, Nat.le_refl _, .nil⟩
    (fun i H _ h => hG H h.2.1) ?_ ?_
  · rintro i x H H' hi ⟨_, s, ys, hy, hl, pr⟩ y
    have hlt : i < ds.length := by omega
    have hd' : ds[i]? = some ds[i] := List.getElem?_eq_getElem hlt
    refine step i x H H' _ hd' s y _ _ (fun y H4 hf s4 r => ?_) (fun H4 hf s4 => ?_)
    · refine ⟨ys, s4 _ _ hy, by omega, hi, Same.put (s.trans s4) hD, ys ++ [y], upd_same, by rw [List.length_append]; show ys.length + 1 ≤ i + 1; omega, ?_⟩
      have t : Tups H4 (upd H4 D (.lst (ys ++ [y]))) := Tups.put (s4 _ _ hy) trivial
      rw [take_snoc hd', List.filter_append, List.map_append]
      refine Pd.app (Paired.mapP pr fun a b h => mono _ _ _ _ ((Tups.of s4).trans t) h) ?_
      rw [List.filter_cons_of_pos hf]
      exact .cons (mono _ _ _ _ t r) .nil
    · refine ⟨hi, s.trans s4, ys, s4 _ _ hy, by omega, ?_⟩
      rw [take_snoc hd', List.filter_append, List.filter_cons_of_neg (by rw [hf]; decide), List.filter_nil, List.append_nil]
      exact Paired.mapP pr fun a b h => mono _ _ _ _ (Tups.of s4) h
  · rintro H ⟨_, s, ys, hy, _, pr⟩
    refine hd H ys s hy ?_
    rw [List.take_of_length_le (by omega)] at pr
    exact pr
end
end Rz
-- part Wc
set_option Elab.async false
set_option linter.all false
set_option maxRecDepth 100000
set_option maxHeartbeats 4000000
namespace Rz
open PySem L2
/-! ### the module's names -/
structure Bt (mg : Str → Option Value) : Prop where
  all : mg "all" = none
  tuple : mg "tuple" = none
  sorted : mg "sorted" = none
  sum : mg "sum" = none
  set : mg "set" = none
  isinstance : mg "isinstance" = none
  int : mg "int" = none
  bool : mg "bool" = none
  range : mg "range" = none
  min : mg "min" = none
  max : mg "max" = none
  len : mg "len" = none
  abs : mg "abs" = none
  list : mg "list" = none
  enumerate : mg "enumerate" = none
/-- a def that stands at the module's name x, by its promise -/
def Cal (P : Program) (w : World) (K : PySem.W.Frag) (mg : Str → Option Value) (base : Heap) (k : Nat) (x : Str) (ps : List Str) (sp : Sp) : Prop :=
  ∃ f fd, FnOk P w K mg base CX0 k f fd ps sp ∧ mg x = some (.ref f) ∧ PySem.W.keepIn K (.ref f) = true ∧ Binds K fd ps []
section
variable {X : Cx} {k : Nat} {x : Str} {ps : List Str} {sp : Sp} {t : TA} {p pos : Pos} {e : Expr} {es : List Expr}
theorem pc (C : Cal X.prog X.w X.K X.mg X.base k x ps sp) (hr : Room k X.A) (hg : Gl X x) (ha : PA X (e :: es) t) (hdb : (x == ("__debug__" : Str)) = false := by decide) (he : starEach (e :: es) X.env = (false, eval e X.env) :: starEach es X.env := by rfl)
    (hpl : (backTo pos (starEach es X.env)).any (·.1) = false := by rfl) : PE X (.Call (.Name x p) (e :: es) [] pos) (tCall sp [] E0 t) := by
  obtain ⟨f, fd, F, hm, hk, hb⟩ := C
  exact pe_call F hr hg hm hk hb .nil pass0 ha hdb he hpl
end
theorem bb_all : bootBuiltins "all" = some (.builtin "all") := by decide +kernel
theorem bb_tuple : bootBuiltins "tuple" = some (.type "tuple") := by decide +kernel
theorem bb_sorted : bootBuiltins "sorted" = some (.builtin "sorted") := by decide +kernel
theorem bb_sum : bootBuiltins "sum" = some (.builtin "sum") := by decide +kernel
theorem bb_set : bootBuiltins "set" = some (.type "set") := by decide +kernel
theorem bb_isinstance : bootBuiltins "isinstance" = some (.builtin "isinstance") := by decide +kernel
theorem bb_int : bootBuiltins "int" = some (.type "int") := by decide +kernel
theorem bb_bool : bootBuiltins "bool" = some (.type "bool") := by decide +kernel
theorem bb_min : bootBuiltins "min" = some (.builtin "min") := by decide +kernel
theorem bb_max : bootBuiltins "max" = some (.builtin "max") := by decide +kernel
theorem bb_len : bootBuiltins "len" = some (.builtin "len") := by decide +kernel
theorem bb_abs : bootBuiltins "abs" = some (.builtin "abs") := by decide +kernel
theorem bb_list : bootBuiltins "list" = some (.type "list") := by decide +kernel
theorem sizeLine_big : (16000000 : Nat) ≤ sizeLine := by decide

/-! ### rules whose readings name the written part K, for blocks within blocks -/
section
variable {X : Cx} (K : PySem.W.Frag) (hK : X.K = K)
include hK
theorem pi_tupK {tg l : Expr} {tl : TE} (hl : PE X l tl) : PI X tg l (iTup K tl) := by subst hK; exact pi_tup hl
theorem pi_listK {tg l : Expr} {tl : TE} (hl : PE X l tl) : PI X tg l (iList K tl) := by subst hK; exact pi_list hl
theorem cr_allK (hc : X.calm = true) : CallR X (.builtin "all") (rAll K) := by subst hK; exact cr_all hc
theorem cr_sumK (hc : X.calm = true) : CallR X (.builtin "sum") (rSum K) := by subst hK; exact cr_sum hc
theorem cr_maxK (hc : X.calm = true) : CallR X (.builtin "max") (rMax K) := by subst hK; exact cr_max hc
theorem ix_tupK : IxR X (rIxT K) := by subst hK; exact ix_tup
theorem ix_listK : IxR X (rIxL K) := by subst hK; exact ix_list
theorem op_catK : OpR X (binaryOp .Add) (rCatA K) := by subst hK; exact op_catA
theorem pg_tupK {es : List Expr} {k : Nat} {t : TGs} {n : Nat} {pos : Pos} (hc : X.calm = true) (h : PGs X es t) (hn : (assignEach es X.env).length = n := by rfl) (hst : (assignEach es X.env).findIdx? (·.1) = none := by rfl) : PG X (.Tuple es k pos) (gTup K n t) := by
  subst hK; exact pg_tup hc h hn hst
theorem pe_fldK {e : Expr} {ta : TE} {f : Str} {pos : Pos} (he : PE X e ta) (hb : attributeBase e f X.env (eval e X.env) = eval e X.env) : PE X (.Attribute e f pos) (tFld K ta f) := by subst hK; exact pe_fld he hb
def rTupleOf (K : PySem.W.Frag) : List V → Hp → VK → Prop := fun xs H Q => ∃ p ys, xs = [.ref p] ∧ ((SqL K H p ys ∧ ∀ l, H l = none → Q (.ref l) (upd H l (.tup ys))) ∨ (SqT K H p ys ∧ Q (.ref p) H))
theorem call_tupleK : CallR X (.type "tuple") (rTupleOf K) := by subst hK; exact call_tuple_of
end

theorem lcw {α : Type} (l : List α) : l.filter (fun _ => true) = l := List.filter_eq_self.mpr fun _ _ => rfl
theorem prs_bl : ∀ {xs : List V} {bs : List Bool}, Paired (fun v b => v = V.bl b) xs bs → xs = bs.map V.bl
  | _, _, .nil => rfl
  | _, _, .cons r t => by rw [prs_bl t, r]; rfl
theorem prs_int : ∀ {xs : List V} {bs : List Nat}, Paired (fun v (b : Nat) => v = V.int b) xs bs → xs = pvs bs
  | _, _, .nil => rfl
  | _, _, .cons r t => by rw [prs_int t, r]; rfl
theorem len_sz {n : Nat} (h : n ≤ 1000) : n ≤ sizeLine := Nat.le_trans h (by decide)
/-! ### halved -/
def spHalved : Sp := fun vs H Q _ => ∃ x ps, vs = [x] ∧ IsS H x ps ∧ ps.length ≤ 1000 ∧ (∀ p ∈ ps, p.length ≤ 1000) ∧ ∀ H' v, Same H H' → IsS H' v (halvedM ps) → Q v H'
section
variable {P : Program} {w : World} {K : PySem.W.Frag} {mg : Str → Option Value} {base : Heap}
theorem scHalved : FnScope ["some", "found", "product", "exponent"] ["some"] (defScope sHalved) := ⟨rfl, rfl, rfl, by decide +kernel, rfl, by decide +kernel, by decide +kernel⟩
theorem ok_halved {f : Addr} {fd : FuncData} (F : Fun K "halved" "halved" sHalved f fd) (T : Bt mg) : FnOk P w K mg base CX0 1 f fd ["some"] spHalved := by
  refine F.ok scHalved (fun vs H Q E h => ?_) (fun cdv A outer s H vs Q E hr h => ?_)
  · obtain ⟨x, ps, rfl, _⟩ := h
    rfl
  · obtain ⟨x, ps, rfl, ⟨t, xs, rfl, ht, hps⟩, hz, hz2, k⟩ := h
    have hlen : xs.length = ps.length := hps.length
    refine ⟨_, pss_cons (ps_setLc (i := 1) (own := [("product", 2)]) (g := gName 2) rfl scHalved.nd rfl rfl (sw_true rfl rfl rfl (by decide +kernel)) (pi_tup (pv 0)) (blkOk_by (by kernel_rfl)) (fun _ _ _ _ _ => pg_name (i := 2) scHalved.nd rfl (.inl rfl))
        (fun _ _ _ _ _ => by exact pts_one (pt_val (pe_callB (cr_allK K rfl rfl) (by rfl) T.all bb_all (pa_cons
          (pe_lc (own := [("exponent", 3)]) (g := gName 3) (tt := tYes) rfl scHalved.nd (pi_tupK K rfl (pv 2)) (blkOk_by (by kernel_rfl)) (fun _ _ _ _ _ => pg_name (i := 3) scHalved.nd rfl (.inl rfl)) (fun _ _ _ _ _ => pts_nil)
            (fun _ _ _ _ _ => pe_cmpR op_eq (pe_op op_mod (pv 3) pe_int) pe_int (nomark _))) pa_nil)))) (fun _ _ _ _ _ => pv 2))
      (pss_one (ps_ret (pe_callTy (call_tupleK K rfl) (by rfl) T.tuple bb_tuple (pa_cons
        (pe_lc (own := [("product", 2)]) (g := gName 2) (tt := tYes) rfl scHalved.nd (pi_listK K rfl (pv 1)) (blkOk_by (by kernel_rfl)) (fun _ _ _ _ _ => pg_name (i := 2) scHalved.nd rfl (.inl rfl)) (fun _ _ _ _ _ => pts_nil)
          (fun _ _ _ _ _ => by exact pe_callTy (call_tupleK K rfl) (by rfl) T.tuple bb_tuple (pa_cons
            (pe_lc (own := [("exponent", 3)]) (g := gName 3) (tt := tYes) rfl scHalved.nd (pi_tupK K rfl (pv 2)) (blkOk_by (by kernel_rfl)) (fun _ _ _ _ _ => pg_name (i := 3) scHalved.nd rfl (.inl rfl)) (fun _ _ _ _ _ => pts_nil)
              (fun _ _ _ _ _ => pe_op op_fdivN (pv 3) pe_int)) pa_nil))) pa_nil)))), ?_⟩
    refine ⟨_, rfl, t, rfl, ⟨_, SqT.of ht⟩, fun D hD => lc_data (walk_tup (K := K) (a := t) (xs := xs)) ps allOdd id IsP hlen.symm (by rw [hlen]; exact len_sz hz) hD (fun _ _ _ _ s h => h.mono s) (fun H' s' => SqT.of (s' _ _ ht)) ?_ ?_⟩
    · rintro i x H1o H1 p hp s1 ⟨rfl, hx⟩ Z N hZ hN
      obtain ⟨p', hp', tp, rfl, htp⟩ := Pd.get hps hx
      rw [hp] at hp'
      cases hp'
      have h1 : H1 tp = some (.tup (pvs p)) := s1 _ _ htp
      have hpl : p.length ≤ 1000 := hz2 p (List.mem_of_getElem? hp)
      refine ⟨rfl, _, rfl, tp, rfl, ⟨_, SqT.of h1⟩, fun D2 hD2 => lc_data (walk_tup (K := K) (a := tp) (xs := pvs p)) p (fun _ => true) (fun e => e % 2 == 1) (fun _ v b => v = V.bl b) (pvs_len p).symm (by rw [pvs_len]; exact len_sz hpl) hD2 (fun _ _ _ _ _ h => h) (fun H' s' => SqT.of (s' _ _ h1)) ?_ ?_⟩
      · rintro j y H2o H2 e he s2 ⟨rfl, hy⟩ Z2 N2 hZ2 hN2
        obtain ⟨e', he', rfl⟩ := pvs_get hy
        rw [he] at he'
        cases he'
        refine ⟨rfl, _, rfl, _, _, rfl, rfl, (by show (0 : Int) < 2; decide), rfl, ?_⟩
        refine hZ2 _ _ rfl (Same.refl _) ?_
        show V.bl (decide (V.int ((e : Int) % 2) = V.int 1)) = V.bl (e % 2 == 1)
        rw [dec_int]
        congr 1
        rw [Bool.eq_iff_iff, beq_iff_eq, beq_iff_eq]
        omega
      · intro H2 bs s2 hb hbs
        rw [lcw] at hbs
        have eb := prs_bl hbs
        subst eb
        refine ⟨D2, _, rfl, SqL.of hb, _, rfl, ?_⟩
        have e1 : ((p.map fun e => e % 2 == 1).all id) = allOdd p := by
          unfold allOdd
          rw [List.all_map]
          rfl
        rw [e1]
        refine ite2 (fun hf => ?_) (fun hf => ?_)
        · exact ⟨_, rfl, hZ _ _ hf s2 ⟨tp, rfl, s2 _ _ h1⟩⟩
        · exact hN _ (by simpa using hf) s2
    · intro H1 ys s1 hy hys
      rw [List.map_id] at hys
      have hly : ys.length = (ps.filter allOdd).length := hys.length
      have hfl : (ps.filter allOdd).length ≤ ps.length := List.length_filter_le _ _
      refine ⟨_, rfl, D, rfl, ⟨_, SqL.of hy⟩, fun D2 hD2 => lc_data (walk_list (K := K) (a := D) (xs := ys)) (ps.filter allOdd) (fun _ => true) half IsP hly.symm (by rw [hly]; exact len_sz (by omega)) hD2 (fun _ _ _ _ s h => h.mono s) (fun H' s' => SqL.of (s' _ _ hy)) ?_ ?_⟩
      · rintro i x H2o H2 p hp s2 ⟨rfl, hx⟩ Z N hZ hN
        obtain ⟨p', hp', tp, rfl, htp⟩ := Pd.get hys hx
        rw [hp] at hp'
        cases hp'
        have h1 : H2 tp = some (.tup (pvs p)) := s2 _ _ htp
        have hpl : p.length ≤ 1000 := hz2 p (List.mem_filter.mp (List.mem_of_getElem? hp)).1
        refine ⟨rfl, _, rfl, tp, rfl, ⟨_, SqT.of h1⟩, fun D3 hD3 => lc_data (walk_tup (K := K) (a := tp) (xs := pvs p)) p (fun _ => true) (fun e => e / 2) (fun _ v (b : Nat) => v = V.int b) (pvs_len p).symm (by rw [pvs_len]; exact len_sz hpl) hD3 (fun _ _ _ _ _ h => h) (fun H' s' => SqT.of (s' _ _ h1)) ?_ ?_⟩
        · rintro j y H3o H3 e he s3 ⟨rfl, hy⟩ Z2 N2 hZ2 hN2
          obtain ⟨e', he', rfl⟩ := pvs_get hy
          rw [he] at he'
          cases he'
          refine ⟨rfl, _, rfl, _, _, rfl, rfl, (by show (2 : Int) ≠ 0 ∧ (2 : Int).natAbs < 1073741824; decide), ?_⟩
          refine hZ2 _ _ rfl (Same.refl _) ?_
          show V.int ((e : Int).fdiv 2) = V.int ((e / 2 : Nat) : Int)
          rw [Int.fdiv_eq_ediv_of_nonneg _ (by decide)]
          congr 1
        · intro H3 bs s3 hb hbs
          rw [lcw] at hbs
          have eb := prs_int hbs
          subst eb
          refine ⟨D3, _, rfl, .inl ⟨SqL.of hb, fun l hl => ?_⟩⟩
          refine hZ _ _ rfl (s3.trans (Same.fresh hl)) ⟨l, rfl, upd_same⟩
      · intro H2 zs s2 hz' hzs
        rw [lcw] at hzs
        refine ⟨D2, _, rfl, .inl ⟨SqL.of hz', fun l hl => ?_⟩⟩
        refine k _ _ ?_ ⟨l, zs, rfl, upd_same, Prs.mono (Tups.fresh hl) hzs⟩
        intro b o e
        exact Same.fresh hl _ _ (s2 _ _ (s1 _ _ e))
end
end Rz
-- part Ws
set_option Elab.async false
set_option linter.all false
set_option maxRecDepth 100000
set_option maxHeartbeats 4000000
namespace Rz
open PySem PySem.Spec PyProof.Rows L2
/-! ### sorted(xs), xs a list of products, of any length -/
def encP (p : P) : PyData := .tuple (p.map fun e => .int ((e : Nat) : Int))
theorem ints_lt : ∀ (p q : P), (p.map (fun e => ((e : Nat) : Int)) < q.map (fun e => ((e : Nat) : Int))) ↔ p < q
  | [], [] => by simp
  | [], b :: q => by simp
  | a :: p, [] => by simp
  | a :: p, b :: q => by
    rw [List.map_cons, List.map_cons, List.cons_lt_cons_iff, List.cons_lt_cons_iff, ints_lt p q]
    constructor
    · rintro (h | ⟨h, g⟩)
      · exact .inl (by omega)
      · exact .inr ⟨by omega, g⟩
    · rintro (h | ⟨h, g⟩)
      · exact .inl (by omega)
      · exact .inr ⟨by omega, g⟩
theorem encP_map (p : P) : encP p = .tuple ((p.map fun e => ((e : Nat) : Int)).map PyData.int) := by
  unfold encP
  rw [List.map_map]
  rfl
theorem le_encP : PySem.W.dataLe false encP = fun p q => decide (p ≤ q) := by
  funext p q
  show (!PySem.W.dataLt (encP q) (encP p)) = _
  rw [encP_map, encP_map, PySem.W.dataLt_tuple]
  show (!PySem.W.rowLt _ _) = _
  rw [PySem.W.dataLt_ints]
  by_cases h : q < p
  · have h1 := (ints_lt q p).mpr h
    have h2 : ¬ p ≤ q := fun r => List.not_lt.mpr r h
    simp [h1, h2]
  · have h1 : ¬ _ := fun z => h ((ints_lt q p).mp z)
    have h2 : p ≤ q := List.not_lt.mp h
    simp [h1, h2]
theorem dpAll_pvs {K : PySem.W.Frag} {H : Hp} : ∀ p : P, DpAll K H (pvs p) (p.map fun e => PyData.int ((e : Nat) : Int))
  | [] => .nil
  | e :: p => .cons (.int _) (dpAll_pvs p)
theorem IsP.dp {K : PySem.W.Frag} {H : Hp} {x : V} {p : P} (h : IsP H x p) : Dp K H x (encP p) := by
  obtain ⟨t, rfl, ht⟩ := h
  exact .tup (SqT.of ht) (dpAll_pvs p)
theorem sort_perm (ps : List P) : (ps.mergeSort fun p q => decide (p ≤ q)).Perm ps := List.mergeSort_perm _ _
theorem sort_pw (ps : List P) : (ps.mergeSort fun p q => decide (p ≤ q)).Pairwise (· ≤ ·) := by
  have h := List.pairwise_mergeSort (le := fun p q : P => decide (p ≤ q)) (fun a b c h1 h2 => decide_eq_true (List.le_trans (of_decide_eq_true h1) (of_decide_eq_true h2)))
    (fun a b => by
      rcases List.le_total a b with h | h
      · simp [h]
      · simp [h]) ps
  exact h.imp fun h => of_decide_eq_true h
theorem each_out {H : Hp} : ∀ {out : List Value} {qs : List P}, PySem.W.EachIs (fun v b => ∃ t, v = Value.ref t ∧ H t = some (.tup (pvs b))) out qs → Vals (out.map bkV) out ∧ Paired (IsP H) (out.map bkV) qs
  | _, _, .nil => ⟨.nil, .nil⟩
  | _, _, .cons r t => by
    obtain ⟨h1, h2⟩ := each_out t
    obtain ⟨a, rfl, ha⟩ := r
    exact ⟨.cons rfl h1, .cons ⟨a, rfl, ha⟩ h2⟩
theorem each_in {X : Cx} {pins : List (Addr × Obj)} {σ : L2.St} {H : Hp} {s : Shared} (I : Inv X pins σ H s) : ∀ {xs : List V} {us : List Value} {ps : List P}, Vals xs us → Paired (IsP H) xs ps →
    PySem.W.EachIs (fun v b => ∃ t, v = Value.ref t ∧ H t = some (.tup (pvs b))) us ps ∧ PySem.W.EachIs (fun v b => ∃ as, Reads s.heap v (encP b) as) us ps
  | _, _, _, .nil, .nil => ⟨.nil, .nil⟩
  | _, _, _, .cons r rs, .cons h hs => by
    obtain ⟨h1, h2⟩ := each_in I rs hs
    obtain ⟨t, e, ht⟩ := id h
    subst e
    refine ⟨.cons ⟨t, r, ht⟩ h1, .cons ?_ h2⟩
    exact Dp.reads I _ _ _ (IsP.dp (K := X.K) h) r
def rSortPs (K : PySem.W.Frag) : List V → Hp → VK → Prop := fun vs H Q => ∃ (a : Addr) (xs : List V) (ps : List P), vs = [V.ref a] ∧ SqL K H a xs ∧ Paired (IsP H) xs ps ∧ (∀ p ∈ ps, p ≠ []) ∧
  ∀ ys qs p, qs.Perm ps → qs.Pairwise (· ≤ ·) → Paired (IsP H) ys qs → H p = none → Q (.ref p) (upd H p (.lst ys))
section
variable {X : Cx}
theorem cr_sortPs (K : PySem.W.Frag) (hK : X.K = K) (hu : X.A.units + 100 < cLine) : CallR X (.builtin "sorted") (rSortPs K) := by
  subst hK
  intro pins s σ H vs us Q I r h
  obtain ⟨a, xs, ps, rfl, hs, hp, hne, q⟩ := h
  obtain ⟨its, rv, hl, hz⟩ := I.list hs
  rw [Vals.ref1 r]
  obtain ⟨e1, e2⟩ := each_in I rv hp
  have hlen : xs.length = ps.length := hp.length
  refine PySem.W.sorted_data (enc := encP) hl.isList e1 e2 (PySem.W.AllAlike.of fun b b' => ?_) (.inl fun d hd => ?_) (by rw [← hlen]; exact hz) (fun b _ => ?_) fun out h1 h2 => ?_
  · rw [encP_map, encP_map]
    simp only [PySem.W.alike]
    exact PySem.W.alike_ints _ _
  · obtain ⟨p, hp', rfl⟩ := List.mem_map.mp hd
    cases p with
    | nil => exact absurd rfl (hne _ hp')
    | cons e p => exact ⟨_, _, rfl⟩
  · rw [encP_map]
    have : PyData.depth (.tuple ((b.map fun e => ((e : Nat) : Int)).map PyData.int)) ≤ 1 := by
      simp only [PyData.depth, PySem.W.depth_ints]
      omega
    omega
  · rw [le_encP] at h2
    obtain ⟨g1, g2⟩ := each_out h2
    obtain ⟨ep, he'⟩ := PyProof.Rows.sortedAll_at s.heap its out.toArray
    have hle : (out.map bkV).length ≤ sizeLine := by rw [List.length_map, h1, ← hlen]; exact hz
    refine ⟨.ref _, upd H (s.heap.objs.size + 1) (.lst (out.map bkV)), I.laid (t' := s.toks) (fun _ _ => PyProof.Rows.sortedAll_old) (Nat.le_succ _) ⟨hle, out, ep, g1, he'⟩, rfl, q _ _ _ (sort_perm ps) (sort_pw ps) g2 (I.hok.fresh (Nat.le_succ _))⟩
end
/-! ### sorted(d, reverse=True), d a dict whose keys are ints -/
def rSortDR : List V → List V → Hp → VK → Prop := fun vs zs H Q => ∃ (a : Addr) (kvs : List (Key × V)) (ks : List Int), vs = [V.ref a] ∧ zs = [V.bl true] ∧ Rd H a (.dK kvs) ∧ kvs.map (·.1) = ks.map Sum.inl ∧
  ∀ (ns : List Int) (p : Addr), ns.Perm ks → ns.Pairwise (· ≥ ·) → H p = none → Q (.ref p) (upd H p (.lst (ns.map V.int)))
section
variable {X : Cx}
theorem cr_sortDR (hc : X.calm = true) : CallRK X (.builtin "sorted") [Str.ofString "reverse"] rSortDR := by
  intro pins s σ H vs zs us ws Q I r rz h
  obtain ⟨a, kvs, ks, rfl, rfl, hd, hks, q⟩ := h
  obtain rfl := Vals.ref1 r
  obtain ⟨w1, rfl, e1⟩ := vals1 rz
  obtain rfl : w1 = Value.bool true := e1
  obtain ⟨z, lo, vs, rel, dd⟩ := dk_rd I.hok hd
  obtain ⟨ep, hat⟩ := dd.dictAt
  have hkeys : vs.map (·.1) = ks.map Sum.inl := rel.keys.symm.trans hks
  have hl : vs.length = ks.length := by
    have e := congrArg List.length hkeys
    rw [List.length_map, List.length_map] at e
    exact e
  have hkl : kvs.length = ks.length := by
    have e := congrArg List.length hks
    rw [List.length_map, List.length_map] at e
    exact e
  have h16 : vs.length ≤ sizeLine := by rw [hl, ← hkl]; exact z
  refine PyProof.Rows.call_function_entry_kw PyProof.Rows.kind_sorted PyProof.Rows.plain_sorted PyProof.Rows.entry_sorted (PyProof.Rows.args_sorted_rev _ _) ?_
  unfold Builtin.«sorted»
  refine wpAny_bind (m := checkCount "sorted" 1 1 _) (wpAny_pure ?_)
  refine wpAny_bind (PySem.W.kdu_collect (A := X.A.in1) (PySem.W.kdl_dict (knd := mixKind X.prog X.w) (kvs := vs) (ep := ep) lo) (I.ok.hd hc) hat h16 fun h' tk acc hk hacc => ?_)
  have hal : acc.toList.length = ks.length := by rw [Array.length_toList, hacc.1, hl]
  have hS : IntsAre acc.toList ks := ints_each hal fun j v e => by
    obtain ⟨k, x, e1, e2⟩ := hacc.2 j v (by rw [← Array.getElem?_toList]; exact e)
    have e3 : (vs.map (·.1))[j]? = some k := by rw [List.getElem?_map, e1]; rfl
    rw [hkeys, List.getElem?_map] at e3
    cases e4 : ks[j]? with
    | none => rw [e4] at e3; cases e3
    | some y =>
      rw [e4] at e3
      have e5 : Sum.inl y = k := Option.some.inj e3
      subst e5
      rcases keyIs_shape (show keyIs (Sum.inl y) v = true from e2) with ⟨i, t, ek, ev⟩ | ⟨z, t, ek, ev⟩
      · cases ek
        exact ⟨y, t, rfl, ev⟩
      · cases ek
  have I1 : Inv X pins σ H { s with heap := h', toks := tk } := I.kept hk
  have hz2 : acc.toList.length ≤ sizeLine := by rw [hal, ← hkl]; exact z
  refine wpAny_bind (wpAny_newList ?_ hz2)
  have hoL : (h'.push (PyProof.Rows.seqObj "list" acc.toList.toArray 0)).get? h'.objs.size = some (PyProof.Rows.seqObj "list" acc.toList.toArray 0) := Heap.get?_push_size _ rfl
  show wpAny _ _ _ _ _ { s with heap := h'.push (PyProof.Rows.seqObj "list" acc.toList.toArray 0), toks := tk }
  refine wpAny_bind (wpAny_holding (PyProof.Rows.wpAny_call_entry_kw PyProof.Rows.slot_list_sort ⟨_, hoL, rfl⟩ PyProof.Rows.entry_list_sort
    (SrtR.list_sort_ordR (b := true) (s := { s with heap := h'.push (PyProof.Rows.seqObj "list" acc.toList.toArray 0), toks := tk }) SrtO.swo_int hoL hz2 (fun h2 => SrtO.ints_sortable hS h2) fun out h1 h2 => ⟨_, rfl, ?_⟩) (PyProof.Rows.args_list_sort_rev _ _)))
  obtain ⟨ns, k1, k2, k3⟩ := SrtR.ints_outR (b := true) hS h1 h2
  obtain ⟨e', he'⟩ := PyProof.Rows.sortedHeap_at (vs := acc.toList) (out := out.toArray.reverse) hoL
  have hlen : (ns.map V.int).length ≤ sizeLine := by
    rw [List.length_map, k2.length_eq, ← hkl]
    exact z
  have e0 : (out.toArray.reverse.toList).toArray = out.toArray.reverse := by rw [Array.toArray_toList]
  refine wpAny_pure ⟨_, rfl, .ref h'.objs.size, upd H h'.objs.size (.lst (ns.map V.int)), I1.laid (t' := tk) (fun b u e => ?_) (Nat.le_refl _) ⟨hlen, _, e', vals_of_ints k1, by rw [show (if true = true then out.toArray.reverse else out.toArray) = out.toArray.reverse from rfl, e0]; exact he'⟩, rfl, q _ _ k2 k3 (I1.hok.fresh (Nat.le_refl _))⟩
  have hlt : b < h'.objs.size := Heap.lt_size e
  rw [PyProof.Rows.sortedHeap_old (Nat.ne_of_lt hlt) (by rw [size_push']; exact Nat.lt_succ_of_lt hlt)]
  exact Heap.get?_push_of_some _ e
end
end Rz
-- part Wt
set_option Elab.async false
set_option linter.all false
set_option maxRecDepth 100000
set_option maxHeartbeats 4000000
/-! set(xs) of a list of ints, as the layer's SetO; sorted(set(xs)) of equal ints. -/
namespace Rz
open PySem PySem.Spec PyProof.Rows L2
section
variable {P : Program} {w : World} {A : Around} {E : Value → Shared → Prop} {s : Shared}
/-- the empty set's object -/
abbrev ns0 (w : World) : Obj := { cls := .type "set", dict := none, data := .set #[] 0 (.fresh 0 0 (!w.params.followText "set-order")) }
theorem call_set_lst {l : Addr} {items : Array Value} (ns : List Int) {Q : Value → Shared → Prop} (hh : A.handled = none) (hl : s.heap.IsList l items) (hit : IntsAre items.toList ns) (hb : ns.length + 1 < scanBound)
    (h : ∀ (h' : Heap) (tk c : Nat), SetR w h' s.heap.objs.size (fun j => decide (j ∈ ns)) c → c ≤ ns.length → (∀ b o, s.heap.get? b = some o → h'.get? b = some o) → Q (.ref s.heap.objs.size) { s with heap := h', toks := tk }) :
    wpAny (model P w) A (call (.type "set") [.ref l]) Q E s := by
  have hisz : items.size = ns.length := by rw [← IntsAre.length hit, Array.length_toList]
  obtain ⟨c, tl, hmro⟩ := PySem.F.called_set.mro
  have hmade := PySem.F.called_set.made
  have hsub := PySem.F.called_set.sub
  refine wpAny_call (codeAny_of_tree ?_)
  show wpAny _ _ (callAny (.type "set") _) _ _ _
  refine wpAny_pure ⟨Code.quiet_builtin _ (by decide +kernel), codeAny_builtin PySem.F.entry_type_call ?_⟩
  rw [Around.under_plain (weight_type_call_type "set" [.ref l] []) rfl]
  have h1 := PySem.F.called_set.notType
  have h2 := PySem.F.called_set.canCreate
  have hct := PySem.F.typeCall_set_1 (.ref l)
  repeat (any_goals (first | assumption | wp_step))
  refine codeAny_mono (code_set_led1 (.ref l) (E := E) (Q₁ := fun obj s₁ => obj = .ref s.heap.objs.size ∧ s₁ = { s with heap := s.heap.push (ns0 w) }) ⟨rfl, rfl⟩) fun r s₁ hr => ?_
  cases r with
  | error e => exact hr
  | ok fl =>
    cases fl with
    | ret obj =>
      obtain ⟨rfl, rfl⟩ := hr
      have hS : (s.heap.push (ns0 w)).get? s.heap.objs.size = some (ns0 w) := Heap.get?_push_size _ rfl
      have hT : Shared.TypeIs { s with heap := s.heap.push (ns0 w) } (.ref s.heap.objs.size) "set" := ⟨_, hS, rfl⟩
      have hli := PySem.F.called_set.init.lookup
      have hbi := PySem.F.called_set.init.bind (.ref s.heap.objs.size)
      repeat (any_goals (first | assumption | wp_step))
      refine codeAny_mono (codeAny_call_builtin (R := wants (fun r s₂ => r = .none ∧ ∃ h' tk c, s₂ = { s with heap := h', toks := tk } ∧ SetR w h' s.heap.objs.size (fun j => decide (j ∈ ns)) c ∧ c ≤ ns.length ∧
          (∀ b o, s.heap.get? b = some o → h'.get? b = some o)) E) PySem.F.called_set.init.plain PySem.F.entry_set_init (check_set_init_1 hT ?_)) fun r₂ s₂ hr₂ => ?_
      · obtain ⟨⟨ocls, odict, odata, oslots⟩, hol, hcl, nl, hdl⟩ := hl
        simp only at hcl hdl
        subst hcl; subst hdl
        have hol' : (s.heap.push (ns0 w)).get? l = some { cls := .type "list", dict := odict, data := .seq items nl, slots := oslots } := Heap.get?_push_of_some _ hol
        have hsls := PySem.F.sub_list_set
        have hslf := PySem.F.sub_list_frozenset
        have hne : (Value.type "list" == Value.type "dict") = false := by decide
        have hl1 : (s.heap.push (ns0 w)).IsList l items := ⟨_, hol', rfl, nl, rfl⟩
        unfold Builtin.«set.__init__» noKeywords Builtin.Frozenset.updateFrom
        generalize hPI : pyIter = PI
        wp_walk
        subst hPI
        refine wpAny_pyIter_list hl1 (wpAny_bind (wpAny_runValue ?_))
        have hlS : l < s.heap.objs.size := Heap.lt_size hol
        have hsz : (s.heap.push (ns0 w)).objs.size = s.heap.objs.size + 1 := Heap.size_push ..
        have hneI : l ≠ (s.heap.push (ns0 w)).objs.size := by rw [hsz]; exact Nat.ne_of_lt (Nat.lt_succ_of_lt hlS)
        have hval : ∀ (i : Nat) (v : Value), items[i]? = some v → ∃ k t, ns[i]? = some k ∧ v = .int k t := fun i v hv => by
          have hi : i < ns.length := by rw [← hisz]; exact (Array.getElem?_eq_some_iff.mp hv).1
          obtain ⟨t, e⟩ := PyProof.Rows.IntsAre.int_at hit i v (by rw [Array.getElem?_toList]; exact hv)
          exact ⟨ns[i], t, List.getElem?_eq_getElem hi, by rw [e, List.getD_eq_getElem?_getD, List.getElem?_eq_getElem hi]; rfl⟩
        refine set_update_ints ((Walks.list (by simp [hh]) _ l hneI items).toS) s.heap.objs.size (by rw [hsz]; simp only [List.mem_cons, List.not_mem_nil, or_false, not_or]; exact ⟨Nat.ne_of_lt (Nat.lt_succ_self _), Nat.ne_of_gt hlS⟩) ns hisz hb hval (items.size - 0) 0 _ (by omega) (Nat.zero_le _)
          ⟨⟨_, Heap.get?_push_size _ rfl, rfl, rfl⟩, (hl1.push _)⟩ ⟨0, Nat.le_refl 0, setR_new_at (Heap.get?_push_of_some _ hS)⟩ ?hR
        case hR =>
          intro s' c' hm hc' hS'
          obtain ⟨h', g2, d', tk', os'⟩ := s'
          have eg : g2 = s.gens := hm.gens
          have ed : d' = s.drawn := hm.drawn
          have eo : os' = s.os := hm.os
          subst eg; subst ed; subst eo
          show wpAny _ _ _ _ _ _
          refine wpAny_pure ?_
          show wpAny _ _ (ret Value.none) _ _ _
          refine wpAny_pure ⟨rfl, h', tk', c', rfl, hS', hisz ▸ hc', fun b o e => ?_⟩
          have hb0 : b < s.heap.objs.size := Heap.lt_size e
          have hb2 : b ≠ (s.heap.push (ns0 w)).objs.size := by rw [hsz]; exact Nat.ne_of_lt (Nat.lt_succ_of_lt hb0)
          refine hm.heap b o (fun hm' => ?_) (Heap.get?_push_of_some _ (Heap.get?_push_of_some _ e))
          rcases List.mem_cons.mp hm' with q | q
          · exact Nat.ne_of_lt hb0 q
          · exact hb2 (List.mem_singleton.mp q)
      · cases r₂ with
        | error e => exact hr₂
        | ok fl₂ =>
          cases fl₂ with
          | ret r =>
            obtain ⟨rfl, h', tk, c', rfl, hS', hc', hk'⟩ := hr₂
            repeat (any_goals (first | assumption | wp_step))
            exact h _ _ _ hS' hc' hk'
          | _ => exact hr₂.elim
    | _ => exact hr.elim
end
/-- set(xs), xs a list of ints -/
def rSetLst (K : PySem.W.Frag) (w : World) : List V → Hp → VK → Prop := fun vs H Q => ∃ (a : Addr) (ns : List Int), vs = [V.ref a] ∧ SqL K H a (ns.map V.int) ∧ ns.length ≤ 60 ∧
  ∀ (p : Addr) (c : Nat), c ≤ ns.length → H p = none → Q (.ref p) (upd H p (SetO w p (fun j => decide (j ∈ ns)) c))
section
variable {X : Cx}
theorem cr_setLst (hc : X.calm = true) : CallR X (.type "set") (rSetLst X.K X.w) := by
  intro pins s σ H vs us Q I r h
  obtain ⟨a, ns, rfl, hs, hz, q⟩ := h
  obtain ⟨its, rv, hl, _⟩ := I.list hs
  rw [Vals.ref1 r]
  refine call_set_lst (P := X.prog) (w := X.w) ns (I.ok.hd hc) hl.isList (by simpa using rv.ints) (by unfold scanBound; omega) fun h' tk c hR hc' hk => ?_
  exact ⟨.ref _, upd H s.heap.objs.size (SetO X.w s.heap.objs.size (fun j => decide (j ∈ ns)) c), I.laid (t' := tk) hk (Nat.le_refl _) (setO_new hR), rfl, q _ c hc' (I.hok.fresh (Nat.le_refl _))⟩
end
end Rz
-- part W1
set_option Elab.async false
set_option linter.all false
set_option maxRecDepth 100000
set_option maxHeartbeats 4000000
namespace Rz
open PySem L2
section
variable {P : Program} {w : World} {K : PySem.W.Frag} {mg : Str → Option Value} {base : Heap}
/-! ### is_whole, look_part -/
def spWhole : Sp := fun vs H Q _ => ∃ i : Int, vs = [.int i] ∧ Q (.bl true) H
theorem scWhole : FnScope ["thing"] ["thing"] (defScope sIsWhole) := ⟨rfl, rfl, rfl, by decide +kernel, rfl, by decide +kernel, by decide +kernel⟩
theorem ok_whole {f : Addr} {fd : FuncData} (F : Fun K "is_whole" "is_whole" sIsWhole f fd) (T : Bt mg) : FnOk P w K mg base CX0 1 f fd ["thing"] spWhole := by
  refine F.ok scWhole (fun vs H Q E h => ?_) (fun cdv A outer s H vs Q E hr h => ?_)
  · obtain ⟨i, rfl, _⟩ := h
    rfl
  · obtain ⟨i, rfl, k⟩ := h
    refine ⟨_, pss_one (ps_ret (pe_and (pe_callB call_isi (by rfl) T.isinstance bb_isinstance (pa_cons (pv 0) (pa_cons (pe_bltn (v := .ty "int") (by rfl) T.int bb_int rfl) pa_nil)))
      (pe_one (pe_not (pe_callB call_isi (by rfl) T.isinstance bb_isinstance (pa_cons (pv 0) (pa_cons (pe_bltn (v := .ty "bool") (by rfl) T.bool bb_bool rfl) pa_nil))))))), ?_⟩
    refine ⟨_, rfl, _, _, _, _, true, rfl, .ty "int", .base (.int i), kit_ty (by decide +kernel), true, rfl, ?_⟩
    refine iteT ?_
    refine ⟨_, rfl, _, _, _, _, false, rfl, .ty "bool", .base (.int i), kit_ty (by decide +kernel), false, rfl, ?_⟩
    exact k
def spLook : Sp := fun vs H Q _ => ∃ i : Nat, vs = [.int (i : Nat)] ∧ Q .non H
theorem scLookR : FnScope ["k"] ["k"] (defScope sLookR) := ⟨rfl, rfl, rfl, by decide +kernel, rfl, by decide +kernel, by decide +kernel⟩
theorem scLookL : FnScope ["k"] ["k"] (defScope sLookL) := ⟨rfl, rfl, rfl, by decide +kernel, rfl, by decide +kernel, by decide +kernel⟩
theorem ok_lookR {f : Addr} {fd : FuncData} (F : Fun K "look_part" "look_part" sLookR f fd) (C : Cal P w K mg base 1 "is_whole" ["thing"] spWhole) : FnOk P w K mg base CX0 2 f fd ["k"] spLook := by
  refine F.ok scLookR (fun vs H Q E h => ?_) (fun cdv A outer s H vs Q E hr h => ?_)
  · obtain ⟨i, rfl, _⟩ := h
    rfl
  · obtain ⟨i, rfl, k⟩ := h
    refine ⟨_, pss_one (ps_if (PW.pt (pw_or (pt_not (pt_val (pc C hr (by rfl) (pa_cons (pv 0) pa_nil)))) (pw_or1 (pt_cmpR op_lt (pv 0) pe_int (nomark _))))) (pss_one ps_never) pss_nil), ?_⟩
    refine ⟨_, rfl, i, rfl, true, rfl, ?_⟩
    refine iteF ?_
    refine ⟨_, rfl, _, _, rfl, rfl, _, rfl, ?_⟩
    rw [decide_eq_false (by omega)]
    exact iteF k
theorem ok_lookL {f : Addr} {fd : FuncData} (F : Fun K "look_part" "look_part" sLookL f fd) (C : Cal P w K mg base 1 "is_whole" ["thing"] spWhole) : FnOk P w K mg base CX0 2 f fd ["k"] spLook := by
  refine F.ok scLookL (fun vs H Q E h => ?_) (fun cdv A outer s H vs Q E hr h => ?_)
  · obtain ⟨i, rfl, _⟩ := h
    rfl
  · obtain ⟨i, rfl, k⟩ := h
    refine ⟨_, pss_one (ps_if (PW.pt (pw_or (pt_not (pt_val (pc C hr (by rfl) (pa_cons (pv 0) pa_nil)))) (pw_or1 (pt_cmpR op_lt (pv 0) pe_int (nomark _))))) (pss_one ps_never) pss_nil), ?_⟩
    refine ⟨_, rfl, i, rfl, true, rfl, ?_⟩
    refine iteF ?_
    refine ⟨_, rfl, _, _, rfl, rfl, _, rfl, ?_⟩
    rw [decide_eq_false (by omega)]
    exact iteF k
end
end Rz
-- part W2
set_option Elab.async false
set_option linter.all false
set_option maxRecDepth 100000
set_option maxHeartbeats 4000000
namespace Rz
open PySem L2
section
variable {P : Program} {w : World} {K : PySem.W.Frag} {mg : Str → Option Value} {base : Heap}
/-! ### odd_ways, steps_of -/
theorem z0 (j : Nat) : V.int (0 + ((j : Nat) : Int)) = V.int (j : Nat) := by rw [Int.zero_add]
def spOddWays : Sp := fun vs H Q _ => ∃ e k : Nat, vs = [.int (e : Nat), .int (k : Nat)] ∧ Q (.bl (e &&& k == k)) H
theorem scOddWays : FnScope ["e", "k"] ["e", "k"] (defScope sOddWays) := ⟨rfl, rfl, rfl, by decide +kernel, rfl, by decide +kernel, by decide +kernel⟩
theorem band_eq (e k : Nat) : decide (V.int (Builtin.bitAnd (e : Int) (k : Int)) = V.int (k : Int)) = (e &&& k == k) := by
  rw [PySem.W.os_band, dec_int]
  rw [Bool.eq_iff_iff, beq_iff_eq, beq_iff_eq]
  omega
theorem ok_oddWays {f : Addr} {fd : FuncData} (F : Fun K "odd_ways" "odd_ways" sOddWays f fd) : FnOk P w K mg base CX0 1 f fd ["e", "k"] spOddWays := by
  refine F.ok scOddWays (fun vs H Q E h => ?_) (fun cdv A outer s H vs Q E hr h => ?_)
  · obtain ⟨e, k, rfl, _⟩ := h
    rfl
  · obtain ⟨e, j, rfl, k⟩ := h
    refine ⟨_, pss_one (ps_ret (pe_cmpR op_eq (pe_op op_and (pv 0) (pv 1)) (pv 1) (nomark _))), ?_⟩
    refine ⟨_, rfl, _, rfl, _, _, rfl, rfl, _, rfl, rfl, ?_⟩
    rw [band_eq]
    exact k
def spSteps : Sp := fun vs H Q _ => ∃ e k : Nat, vs = [.int (e : Nat), .int (k : Nat)] ∧ e ≤ 1000 ∧ ∀ H' l, Same H H' → H' l = some (.lst (pvs (steps e k))) → Q (.ref l) H'
theorem scSteps : FnScope ["e", "most", "j"] ["e", "most"] (defScope sSteps) := ⟨rfl, rfl, rfl, by decide +kernel, rfl, by decide +kernel, by decide +kernel⟩
theorem ok_steps {f : Addr} {fd : FuncData} (F : Fun K "steps_of" "steps_of" sSteps f fd) (T : Bt mg) (C : Cal P w K mg base 1 "odd_ways" ["e", "k"] spOddWays) : FnOk P w K mg base CX0 2 f fd ["e", "most"] spSteps := by
  refine F.ok scSteps (fun vs H Q E h => ?_) (fun cdv A outer s H vs Q E hr h => ?_)
  · obtain ⟨e, k, rfl, _⟩ := h
    rfl
  · obtain ⟨e, m, rfl, he, k⟩ := h
    refine ⟨_, pss_one (ps_ret (pe_lc (own := [("j", 2)]) (g := gName 2) rfl scSteps.nd (pi_range1 (by rfl) T.range (pa_cons (pe_op op_add (pe_callB (call_min2 rfl) (by rfl) T.min bb_min (pa_cons (pv 0) (pa_cons (pv 1) pa_nil))) pe_int) pa_nil))
      (blkOk_by (by kernel_rfl)) (fun _ _ _ _ _ => pg_name (i := 2) scSteps.nd rfl (.inl rfl)) (fun _ _ _ _ _ => by exact pts_one (pt_val (pc C hr (by rfl) (pa_cons (pv 0) (pa_cons (pv 2) pa_nil))))) (fun _ _ _ _ _ => pv 2))), ?_⟩
    have emin : (if ((m : Int) < (e : Int)) then (m : Int) else (e : Int)) + 1 = ((min e m + 1 : Nat) : Int) := by
      split <;> omega
    refine ⟨_, rfl, _, rfl, _, _, rfl, _, _, rfl, rfl, (if ((m : Int) < (e : Int)) then (m : Int) else (e : Int)) + 1, rfl, ?_, ?_, ?_⟩
    · rw [emin]; omega
    · rw [emin]; omega
    · rw [emin]
      intro D hD
      refine lc_data (walk_range (lo := 0) (n := ((min e m + 1 : Nat) : Int).toNat)) (List.range (min e m + 1)) (fun j => e &&& j == j) (fun j => j) (fun _ v (b : Nat) => v = V.int b) (by rw [List.length_range]; rfl) ?_ hD (fun _ _ _ _ _ h => h) (fun _ _ => trivial) ?_ ?_
      · show min e m + 1 ≤ sizeLine
        exact Nat.le_trans (by omega) sizeLine_big
      · rintro i x H1o H1 j hj s1 ⟨rfl, hx⟩ Z N hZ hN
        have hj' : j = i := by
          obtain ⟨h1, h2⟩ := List.getElem?_eq_some_iff.mp hj
          rw [List.getElem_range] at h2
          exact h2.symm
        subst hj'
        obtain rfl : x = V.int (j : Nat) := hx.trans (z0 j)
        refine ⟨rfl, _, rfl, _, rfl, e, j, rfl, _, rfl, ?_⟩
        refine ite2 (fun hf => ?_) (fun hf => ?_)
        · exact ⟨_, rfl, hZ _ _ hf (Same.refl _) rfl⟩
        · exact hN _ (by simpa using hf) (Same.refl _)
      · intro H1 ys s1 hy hys
        rw [List.map_id'] at hys
        have := prs_int hys
        subst this
        exact k _ _ s1 hy

/-! ### raised_product -/
def spRaisedProduct : Sp := fun vs H Q _ => ∃ x p, ∃ k : Nat, vs = [x, .int (k : Nat)] ∧ IsP H x p ∧ p.sum ≤ 1000 ∧ p.length ≤ 1000 ∧ (k + 1) ^ p.length ≤ 100000 ∧ ∀ H' l xs, Same H H' → H' l = some (.lst xs) → Paired (IsP H') xs (ways p k) → Q (.ref l) H'
theorem scRp : FnScope ["product", "k", "ways", "e", "further", "made", "left", "j"] ["product", "k"] (defScope sRaisedProduct) := ⟨rfl, rfl, rfl, by decide +kernel, rfl, by decide +kernel, by decide +kernel⟩
theorem mem_le_sum {e : Nat} : ∀ {p : List Nat}, e ∈ p → e ≤ p.sum
  | a :: p, h => by
    rw [List.sum_cons]
    rcases List.mem_cons.mp h with q | q
    · omega
    · have := mem_le_sum q
      omega
theorem ok_raisedProduct {f : Addr} {fd : FuncData} (F : Fun K "raised_product" "raised_product" sRaisedProduct f fd) (T : Bt mg) (C : Cal P w K mg base 2 "steps_of" ["e", "most"] spSteps) : FnOk P w K mg base CX0 3 f fd ["product", "k"] spRaisedProduct := by
  refine F.ok scRp (fun vs H Q E h => ?_) (fun cdv A outer s H vs Q E hr h => ?_)
  · obtain ⟨x, p, k, rfl, _⟩ := h
    rfl
  · obtain ⟨x, p, m, rfl, ⟨tp, rfl, htp⟩, hsum, hpl, hb, k⟩ := h
    refine ⟨_, pss_cons (ps_set (i := 2) scRp.nd rfl (.inl rfl) (pe_lst (pa_cons (pe_tup (pa_cons (pe_tup pa_nil) (pa_cons (pv 1) pa_nil))) pa_nil)))
      (pss_cons (ps_for PassesOwn.never rfl (pi_tup (pv 0)) (pg_name (i := 3) scRp.nd rfl (.inr rfl))
        (pss_cons (ps_set (i := 4) scRp.nd rfl (.inl rfl) (pe_lst pa_nil))
        (pss_cons (ps_for PassesOwn.never rfl (pi_list (pv 2)) (pg_tup rfl (pgs_cons (pg_name (i := 5) scRp.nd rfl (.inr rfl)) (pgs_cons (pg_name (i := 6) scRp.nd rfl (.inr rfl)) pgs_nil)))
          (pss_one (ps_expr (pe_bm PySem.F.plainAttrs_list PySem.F.slot_list_extend PySem.F.type_list_extend mt_extend (pv 4) (pa_cons
            (pe_lc (own := [("j", 7)]) (g := gName 7) (tt := tYes) rfl scRp.nd (pi_listK K rfl (pc C hr (by rfl) (pa_cons (pv 3) (pa_cons (pv 6) pa_nil)))) (blkOk_by (by kernel_rfl)) (fun _ _ _ _ _ => pg_name (i := 7) scRp.nd rfl (.inl rfl)) (fun _ _ _ _ _ => pts_nil)
              (fun _ _ _ _ _ => by exact pe_tup (pa_cons (pe_op (op_catK K rfl) (pv 5) (pe_tup (pa_cons (pe_op op_add (pv 3) (pv 7)) pa_nil))) (pa_cons (pe_op op_sub (pv 6) (pv 7)) pa_nil)))) pa_nil)))))
        (pss_one (ps_set (i := 2) scRp.nd rfl (.inl rfl) (pv 4))))))
      (pss_one (ps_ret (pe_lc (own := [("made", 5), ("left", 6)]) rfl scRp.nd (pi_list (pv 2)) (blkOk_by (by kernel_rfl))
        (fun _ _ _ _ _ => by exact pg_tupK K rfl (n := 2) rfl (pgs_cons (pg_name (i := 5) scRp.nd rfl (.inl rfl)) (pgs_cons (pg_name (i := 6) scRp.nd rfl (.inl rfl)) pgs_nil)))
        (fun _ _ _ _ _ => by exact pts_one (pt_cmpR op_eq (pv 6) pe_int (nomark _))) (fun _ _ _ _ _ => pv 5))))), ?_⟩
    -- ways = [((), k)]
    have hbig := sizeLine_big
    refine ⟨Nat.zero_le _, fun u hu => ⟨_, rfl, (by show 2 ≤ sizeLine; omega), fun t ht => ⟨(by show 1 ≤ sizeLine; omega), fun wl hwl => ?_⟩⟩⟩
    have su : Same H (upd H u (.tup [])) := Same.fresh hu
    have st : Same H (upd (upd H u (.tup [])) t (.tup [.ref u, .int (m : Nat)])) := su.trans (Same.fresh ht)
    have sw := Same.fresh (o := .lst [.ref t]) hwl
    have h1 : (upd (upd (upd H u (.tup [])) t (.tup [.ref u, .int (m : Nat)])) wl (.lst [.ref t])) t = some (.tup [.ref u, .int (m : Nat)]) := sw _ _ upd_same
    have h2 : (upd (upd (upd H u (.tup [])) t (.tup [.ref u, .int (m : Nat)])) wl (.lst [.ref t])) u = some (.tup []) := sw _ _ (Same.fresh ht _ _ upd_same)
    refine ⟨_, rfl, tp, rfl, ⟨_, SqT.of (sw _ _ (st _ _ htp))⟩, for_it (walk_tup (K := K) (a := tp) (xs := pvs p)) (fun i σ H' => ∃ wl xs ev fv mv lv jv, σ = [some (.ref tp), some (.int (m : Nat)), some (.ref wl), ev, fv, mv, lv, jv] ∧ Same H H' ∧ H wl = none ∧
        H' wl = some (.lst xs) ∧ Paired (IsW H') xs (wayL (p.take i) [([], m)]))
      ⟨wl, _, none, none, none, none, none, rfl, st.trans sw, st.free hwl, upd_same, .cons ⟨t, u, rfl, h1, h2⟩ .nil⟩ (fun i σ H' _ ⟨_, _, _, _, _, _, _, _, s, _⟩ => SqT.of (s _ _ htp)) ?_ ?_⟩
    · rintro i x σ Ho H1 hi ⟨wl, xs, ev, fv, mv, lv, jv, rfl, s1, w0, hw, pr⟩ ⟨rfl, hx⟩
      obtain ⟨e, he, rfl⟩ := pvs_get hx
      have hxl : xs.length = (wayL (p.take i) [([], m)]).length := pr.length
      have hbw := wayL_bound p m i
      -- further = []
      refine ⟨Nat.zero_le _, fun fl hfl => ?_⟩
      have s2 := Same.fresh (o := .lst []) hfl
      refine ⟨_, rfl, wl, rfl, ⟨_, SqL.of (s2 _ _ hw)⟩, for_it (walk_list (K := K) (a := wl) (xs := xs)) (fun j σ H' => ∃ ys mv lv jv, σ = [some (.ref tp), some (.int (m : Nat)), some (.ref wl), some (.int (e : Nat)), some (.ref fl), mv, lv, jv] ∧ Same H1 H' ∧
          H' fl = some (.lst ys) ∧ Paired (IsW H') ys (wayStep e ((wayL (p.take i) [([], m)]).take j)))
        ⟨[], mv, lv, jv, rfl, s2, upd_same, .nil⟩ (fun j σ H' _ ⟨_, _, _, _, _, s, _⟩ => SqL.of (s _ _ hw)) ?_ ?_⟩
      · rintro j x σ Ho2 H2 hj ⟨ys, mv, lv, jv, rfl, s3, hf, py⟩ ⟨rfl, hx2⟩
        obtain ⟨wy, hwy, t, u, rfl, ht, hu⟩ := Pd.get pr hx2
        obtain ⟨g, left⟩ := wy
        have ht2 := s3 _ _ ht
        have hu2 := s3 _ _ hu
        have hep : e ≤ 1000 := Nat.le_trans (mem_le_sum (List.mem_of_getElem? he)) hsum
        have hyl : ys.length = (wayStep e ((wayL (p.take i) [([], m)]).take j)).length := py.length
        have hbs := wayStep_bound p m he j
        have hsn : (wayL (p.take i) [([], m)]).take (j + 1) = (wayL (p.take i) [([], m)]).take j ++ [(g, left)] := take_snoc hwy
        have hbs2 := wayStep_bound p m he (j + 1)
        rw [hsn, wayStep_app, wayStep_one, List.length_append, List.length_map] at hbs2
        have hsl : (wayStep e ((wayL (p.take i) [([], m)]).take j)).length + (steps e left).length ≤ (m + 1) ^ p.length := hbs2
        have hgl : g.length ≤ 1000 := by
          have h1 := wayL_glen (p.take i) (start_glen m) _ (List.mem_of_getElem? hwy)
          rw [List.length_take] at h1
          have h2 : g.length ≤ 0 + min i p.length := h1
          omega
        refine ⟨t, _, rfl, SqT.of ht2, rfl, _, _, rfl, _, _, rfl, rfl, ?_⟩
        refine ⟨_, rfl, .inl ⟨rfl, _, SqL.of hf⟩, ?_⟩
        refine ⟨_, rfl, _, rfl, e, left, rfl, hep, fun H3 l s4 hl => ⟨l, rfl, ⟨_, SqL.of hl⟩, fun D hD => lc_data (walk_list (K := K) (a := l) (xs := pvs (steps e left))) (steps e left) (fun _ => true) (fun j => (g ++ [e + j], left - j)) IsW (pvs_len _).symm
            (by rw [pvs_len]; omega) hD (fun _ _ _ _ s h => h.mono s) (fun H' s' => SqL.of (s' _ _ hl)) ?_ ?_⟩⟩
        · rintro a x Ho4 H4 q hq s5 ⟨rfl, hx⟩ Z N hZ hN
          obtain ⟨q', hq', rfl⟩ := pvs_get hx
          rw [hq] at hq'
          cases hq'
          have hqm := mem_steps.mp (List.mem_of_getElem? hq)
          have hu4 := s5 _ _ (s4 _ _ hu2)
          have fin : ∀ (H6 : Hp) (o2 : Addr), Same H4 H6 → H6 o2 = some (.tup (pvs (g ++ [e + q]))) → ∀ o3, H6 o3 = none → Z (.ref o3) (upd H6 o3 (.tup [.ref o2, .int ((left : Nat) - (q : Nat) : Int)])) := fun H6 o2 s6 h6 o3 h3 => by
            refine hZ _ _ rfl (s6.trans (Same.fresh h3)) ⟨o3, o2, rfl, ?_, Same.fresh h3 _ _ h6⟩
            rw [upd_same]
            have : ((left : Int) - (q : Int)) = ((left - q : Nat) : Int) := by omega
            rw [this]
          have ep : pvs (g ++ [e + q]) = pvs g ++ [V.int ((e : Nat) + (q : Nat) : Int)] := by
            rw [pvs_app]
            rfl
          refine ⟨rfl, ?_⟩
          -- (made + (e + j,), left - j)
          refine ⟨_, rfl, _, rfl, _, rfl, _, _, rfl, rfl, (by show 1 ≤ sizeLine; omega), fun o1 ho1 => ?_⟩
          have s5' := Same.fresh (o := .tup [V.int ((e : Nat) + (q : Nat) : Int)]) ho1
          refine ⟨_, _, _, _, rfl, rfl, SqT.of (s5' _ _ hu4), SqT.of upd_same, (by rw [pvs_len]; show g.length + 1 ≤ sizeLine; omega), fun hg => ?_, fun _ hg => (nomatch hg), fun _ _ o2 ho2 => ?_⟩
          · have eg : pvs g = [] := hg
            refine ⟨_, rfl, _, rfl, _, _, rfl, rfl, (by show 2 ≤ sizeLine; omega), fin _ o1 s5' ?_⟩
            rw [upd_same, ep, eg]
            rfl
          · refine ⟨_, rfl, _, rfl, _, _, rfl, rfl, (by show 2 ≤ sizeLine; omega), fin _ o2 (s5'.trans (Same.fresh ho2)) ?_⟩
            rw [upd_same, ep]
        · intro H4 zs s5 hD4 hzs
          rw [lcw] at hzs
          have hzl : zs.length = (steps e left).length := by rw [hzs.length, List.length_map]
          have s6 : Same H2 H4 := s4.trans s5
          refine ⟨fl, D, ys, zs, rfl, rfl, s6 _ _ hf, hD4, by omega, ?_⟩
          have tp4 := Tups.put (o := .lst (ys ++ zs)) (s6 _ _ hf) trivial
          refine ⟨ys ++ zs, _, _, _, rfl, Same.put (s3.trans s6) hfl, upd_same, ?_⟩
          rw [hsn, wayStep_app, wayStep_one]
          exact Pd.app (Prw.mono ((Tups.of s6).trans tp4) py) (Prw.mono tp4 hzs)
      · rintro σ H2 ⟨ys, mv, lv, jv, rfl, s3, hf, py⟩
        rw [List.take_of_length_le (by omega)] at py
        refine ⟨_, rfl, fl, ys, _, _, _, _, _, rfl, s1.trans s3, s1.free hfl, hf, ?_⟩
        rw [take_snoc he, wayL_snoc]
        exact py
    · rintro σ H1 ⟨wl, xs, ev, fv, mv, lv, jv, rfl, s1, w0, hw, pr⟩
      rw [pvs_len, List.take_length] at pr
      have hxl : xs.length = (wayL p [([], m)]).length := pr.length
      have hbw := wayL_bound p m p.length
      rw [List.take_length] at hbw
      refine ⟨_, rfl, wl, rfl, ⟨_, SqL.of hw⟩, fun D hD => lc_data (walk_list (K := K) (a := wl) (xs := xs)) (wayL p [([], m)]) (fun w => w.2 == 0) (·.1) IsP hxl.symm (by omega) hD (fun _ _ _ _ s h => h.mono s) (fun H' s' => SqL.of (s' _ _ hw)) ?_ ?_⟩
      · rintro j x Ho2 H2 wy hwy s2 ⟨rfl, hx⟩ Z N hZ hN
        obtain ⟨w', hw', t, u, rfl, ht, hu⟩ := Pd.get pr hx
        rw [hwy] at hw'
        cases hw'
        obtain ⟨g, left⟩ := wy
        refine ⟨t, _, rfl, SqT.of (s2 _ _ ht), rfl, _, _, rfl, _, _, rfl, rfl, rfl, ?_⟩
        refine ⟨_, rfl, rfl, _, rfl, ?_⟩
        have e0 : decide (V.int ((left : Nat) : Int) = V.int 0) = (left == 0) := by
          rw [dec_int, Bool.eq_iff_iff, beq_iff_eq, beq_iff_eq]
          omega
        rw [e0]
        refine ite2 (fun hf => ?_) (fun hf => ?_)
        · exact ⟨_, rfl, hZ _ _ hf (Same.refl _) ⟨u, rfl, s2 _ _ hu⟩⟩
        · exact hN _ (by simpa using hf) (Same.refl _)
      · intro H2 ys s2 hD2 hys
        rw [wayL_start] at hys
        exact k _ _ _ (s1.trans s2) hD2 hys
end
end Rz
-- part W3
set_option Elab.async false
set_option linter.all false
set_option maxRecDepth 100000
set_option maxHeartbeats 4000000
namespace Rz
open PySem L2
/-! ### a dict that tells how often -/
structure DT (val : Nat → V) (ps : List (List Nat)) (kvs : List (List Key × V)) (ks : List (List Nat)) : Prop where
  keys : kvs.map (·.1) = ks.map pks
  nd : ks.Nodup
  mem : ∀ p, p ∈ ks ↔ p ∈ ps
  len : kvs.length ≤ ps.length
  at_ : ∀ p, valV kvs (pks p) = if p ∈ ps then some (val (ps.count p)) else none
theorem DT.nil (val : Nat → V) : DT val [] [] [] := ⟨rfl, List.nodup_nil, fun _ => Iff.rfl, Nat.le_refl _, fun _ => rfl⟩
theorem putK_keys {kvs : List (List Key × V)} {k : List Key} {v u : V} (h : valV kvs k = some u) : (putK kvs k v).map (·.1) = kvs.map (·.1) := by
  have hany : (kvs.any fun kv => decide (kv.1 = k)) = true := by
    rw [valV_any, h]
    rfl
  unfold putK
  rw [if_pos hany, List.map_map]
  congr 1
  funext kv
  show (if kv.1 = k then (kv.1, v) else kv).1 = kv.1
  split <;> rfl
theorem DT.put {val : Nat → V} {ps : List (List Nat)} {kvs : List (List Key × V)} {ks : List (List Nat)} (h : DT val ps kvs ks) (p : List Nat) : ∃ ks', DT val (ps ++ [p]) (putK kvs (pks p) (val (ps.count p + 1))) ks' := by
  have hl : (putK kvs (pks p) (val (ps.count p + 1))).length ≤ (ps ++ [p]).length := by
    have h1 := length_putK kvs (pks p) (val (ps.count p + 1))
    have h2 := h.len
    rw [List.length_append, List.length_singleton]
    omega
  have hat : ∀ q, valV (putK kvs (pks p) (val (ps.count p + 1))) (pks q) = if q ∈ ps ++ [p] then some (val ((ps ++ [p]).count q)) else none := fun q => by
    rw [valV_put]
    by_cases e : q = p
    · subst e
      rw [if_pos rfl, if_pos (by simp), List.count_append, List.count_singleton_self]
    · have e1 : ¬ pks q = pks p := fun z => e (pks_inj z)
      have e2 : List.count q [p] = 0 := List.count_eq_zero.mpr fun z => e (List.mem_singleton.mp z)
      rw [if_neg e1, h.at_ q, List.count_append, e2, Nat.add_zero]
      by_cases g : q ∈ ps
      · rw [if_pos g, if_pos (by simp [g])]
      · rw [if_neg g, if_neg (by simp [g, e])]
  by_cases hp : p ∈ ps
  · have hv : valV kvs (pks p) = some (val (ps.count p)) := by rw [h.at_ p, if_pos hp]
    refine ⟨ks, (putK_keys hv).trans h.keys, h.nd, fun q => ?_, hl, hat⟩
    rw [h.mem q, List.mem_append, List.mem_singleton]
    constructor
    · exact .inl
    · rintro (z | z)
      · exact z
      · rw [z]; exact hp
  · have hv : valV kvs (pks p) = none := by rw [h.at_ p, if_neg hp]
    refine ⟨ks ++ [p], ?_, ?_, fun q => ?_, hl, hat⟩
    · rw [putK_new _ hv, List.map_append, List.map_append, h.keys]
      rfl
    · exact nd_snoc h.nd fun z => hp ((h.mem p).mp z)
    · rw [List.mem_append, List.mem_append, h.mem q]
theorem DT.look {val : Nat → V} {ps : List (List Nat)} {kvs : List (List Key × V)} {ks : List (List Nat)} (h : DT val ps kvs ks) (p : List Nat) : (valV kvs (pks p)).getD (val 0) = val (ps.count p) := by
  rw [h.at_ p]
  by_cases g : p ∈ ps
  · rw [if_pos g]
    rfl
  · rw [if_neg g, List.count_eq_zero.mpr g]
    rfl
theorem DT.get {val : Nat → V} {ps : List (List Nat)} {kvs : List (List Key × V)} {ks : List (List Nat)} (h : DT val ps kvs ks) {i : Nat} {k : List Key} {v : V} (e : kvs[i]? = some (k, v)) {p : List Nat} (hp : ks[i]? = some p) : k = pks p ∧ valV kvs (pks p) = some (val (ps.count p)) := by
  have e1 : (kvs.map (·.1))[i]? = some k := by rw [List.getElem?_map, e]; rfl
  rw [h.keys, List.getElem?_map, hp] at e1
  refine ⟨(Option.some.inj e1).symm, ?_⟩
  rw [h.at_ p, if_pos ((h.mem p).mp (List.mem_of_getElem? hp))]
theorem DT.klen {val : Nat → V} {ps : List (List Nat)} {kvs : List (List Key × V)} {ks : List (List Nat)} (h : DT val ps kvs ks) : ks.length = kvs.length := by
  have := congrArg List.length h.keys
  rw [List.length_map, List.length_map] at this
  exact this.symm
theorem oddOf_sorted {ps qs ks : List (List Nat)} (hn : ks.Nodup) (hm : ∀ p, p ∈ ks ↔ p ∈ ps) (hp : qs.Perm ((ks.filter fun p => ps.count p % 2 == 1).map id)) (hs : qs.Pairwise (· ≤ ·)) : qs = oddOf ps := by
  rw [List.map_id] at hp
  have hq : qs.Nodup := hp.nodup_iff.mpr (List.Pairwise.sublist List.filter_sublist hn)
  refine oddOf_of ?_ fun z => ?_
  · have h2 : qs.Pairwise (fun a b => a ≤ b ∧ a ≠ b) := hs.and hq
    exact h2.imp fun ⟨h1, h2⟩ => Std.lt_of_le_of_ne h1 h2
  · rw [hp.mem_iff, List.mem_filter, hm z]
    constructor
    · rintro ⟨_, h⟩
      simpa using h
    · intro h
      refine ⟨List.count_pos_iff.mp (by omega), by simpa using h⟩

section
variable {P : Program} {w : World} {K : PySem.W.Frag} {mg : Str → Option Value} {base : Heap}
/-! ### sum_of_products -/
def spSop : Sp := fun vs H Q _ => ∃ (a : Addr) (xs : List V) (ps : List (List Nat)), vs = [.ref a] ∧ H a = some (.lst xs) ∧ Paired (IsP H) xs ps ∧ (∀ p ∈ ps, p ≠ []) ∧ ps.length ≤ 12000000 ∧ ∀ H' v, Same H H' → IsS H' v (oddOf ps) → Q v H'
theorem scSop : FnScope ["products", "often", "product"] ["products"] (defScope sSop) := ⟨rfl, rfl, rfl, by decide +kernel, rfl, by decide +kernel, by decide +kernel⟩
theorem hu100 {A : Around} {k : Nat} (hr : Room k A) : A.units + 100 < cLine := by have := hr.un; omega
theorem ok_sop {f : Addr} {fd : FuncData} (F : Fun K "sum_of_products" "sum_of_products" sSop f fd) (T : Bt mg) : FnOk P w K mg base CX0 1 f fd ["products"] spSop := by
  refine F.ok scSop (fun vs H Q E h => ?_) (fun cdv A outer s H vs Q E hr h => ?_)
  · obtain ⟨a, xs, ps, rfl, _⟩ := h
    rfl
  · obtain ⟨a, xs, ps, rfl, ha, hps, hne, hz, k⟩ := h
    have hu := hu_of hr
    have hlen : xs.length = ps.length := hps.length
    have hbig := sizeLine_big
    refine ⟨_, pss_cons (ps_set (i := 1) scSop.nd rfl (.inr rfl) pe_dnewT)
      (pss_cons (ps_for PassesOwn.never rfl (pi_list (pv 0)) (pg_name (i := 2) scSop.nd rfl (.inl rfl))
        (pss_one (ps_asg (pe_op op_add (pe_dget2 hu (pv 1) (pv 2) pe_int ⟨rfl, rfl, rfl, rfl⟩) pe_int) (pg_sub (pv 1) (pv 2) (set_dict hu)))))
      (pss_one (ps_ret (pe_callTy (call_tupleK K rfl) (by rfl) T.tuple bb_tuple (pa_cons (pe_callB (cr_sortPs K rfl (hu100 hr)) (by rfl) T.sorted bb_sorted (pa_cons
        (pe_lock (pe_lc (own := [("product", 2)]) (g := gName 2) rfl scSop.nd (pi_keys (pv 1)) (blkOk_by (by kernel_rfl)) (fun _ _ _ _ _ => pg_name (i := 2) scSop.nd rfl (.inl rfl))
          (fun _ _ _ _ _ => by exact pts_one (pt_cmpR op_eq (pe_op op_mod (pe_dget hu (pv 1) (pv 2) (fun _ _ => rfl)) pe_int) pe_int (nomark _))) (fun _ _ _ _ _ => pv 2))) pa_nil)) pa_nil))))), ?_⟩
    intro d hd0
    have sd := Same.fresh (o := .dT []) hd0
    refine ⟨_, rfl, a, rfl, ⟨_, SqL.of (sd _ _ ha)⟩, for_it (walk_list (K := K) (a := a) (xs := xs)) (fun i σ H' => ∃ kvs ks pv, σ = [some (.ref a), some (.ref d), pv] ∧ Same H H' ∧ H' d = some (.dT kvs) ∧ DT (fun c => V.int (c : Nat)) (ps.take i) kvs ks)
      ⟨[], [], none, rfl, sd, upd_same, DT.nil _⟩ (fun i σ H' _ ⟨_, _, _, _, s, _⟩ => SqL.of (s _ _ ha)) ?_ ?_⟩
    · rintro i x σ Ho H1 hi ⟨kvs, ks, pv, rfl, s1, hd, ht⟩ ⟨rfl, hx⟩
      obtain ⟨p, hp, tq, rfl, hq⟩ := Pd.get hps hx
      have hq1 : H1 tq = some (.tup ((pks p).map kV)) := by rw [pks_kV]; exact s1 _ _ hq
      have hl := ht.len
      rw [List.length_take] at hl
      refine ⟨_, rfl, d, rfl, .inr ⟨kvs, .inl hd⟩, _, rfl, _, DGet.t hd hq1, _, _, ht.look p, rfl, ?_⟩
      refine ⟨_, rfl, _, rfl, d, _, rfl, DPut.t hd hq1 (by omega), ?_⟩
      obtain ⟨ks', ht'⟩ := ht.put p
      refine ⟨_, ks', _, rfl, Same.put s1 hd0, upd_same, ?_⟩
      rw [take_snoc hp]
      exact ht'
    · rintro σ H1 ⟨kvs, ks, pv, rfl, s1, hd, ht⟩
      rw [List.take_of_length_le (by omega)] at ht
      have hl := ht.len
      have hkl := ht.klen
      refine ⟨d, _, hd, trivial, fun od => ?_⟩
      have s2 : Same H (upd H1 d (.frz od (.dT kvs))) := Same.put s1 hd0
      refine ⟨_, rfl, d, od, rfl, .inr ⟨kvs, upd_same, fun D hD => lc_data (walk_keysT (d := d) (o := od) (kvs := kvs)) ks (fun p => ps.count p % 2 == 1) id IsP hkl (by omega) hD (fun _ _ _ _ s h => h.mono s) (fun H' s' => s' _ _ upd_same) ?_ ?_⟩⟩
      · rintro i x Ho H2 p hp s3 ⟨rfl, ky, v, q, hkv, rfl, hq⟩ Z N hZ hN
        obtain ⟨rfl, hv⟩ := ht.get hkv hp
        have hd2 := s3 _ _ (upd_same (H := H1) (a := d) (o := .frz od (.dT kvs)))
        refine ⟨rfl, ?_⟩
        refine ⟨_, rfl, _, rfl, d, _, rfl, .inr ⟨kvs, _, q, .inr ⟨od, hd2⟩, rfl, hq, hv.symm⟩, _, _, rfl, rfl, (by show (0 : Int) < 2; decide), rfl, _, rfl, ?_⟩
        have e0 : decide (V.int (((ps.count p : Nat) : Int) % 2) = V.int 1) = (ps.count p % 2 == 1) := by
          rw [dec_int, Bool.eq_iff_iff, beq_iff_eq, beq_iff_eq]
          omega
        rw [e0]
        refine ite2 (fun hf => ?_) (fun hf => ?_)
        · exact ⟨_, rfl, hZ _ _ hf (Same.refl _) ⟨q, rfl, by rw [pks_kV] at hq; exact hq⟩⟩
        · exact hN _ (by simpa using hf) (Same.refl _)
      · intro H2 ys s3 hD2 hys
        have hd2 := s3 _ _ (upd_same (H := H1) (a := d) (o := .frz od (.dT kvs)))
        refine ⟨hd2, ?_⟩
        have t3 : Tups H2 (upd H2 d (.dT kvs)) := Tups.put hd2 trivial
        have nD : D ≠ d := fun q => by
          rw [q, upd_same] at hD
          cases hD
        refine ⟨D, ys, _, rfl, SqL.of (by rw [upd_ne nD]; exact hD2), Prs.mono t3 hys, fun p hp => ?_, fun zs qs l hperm hsrt hz' hl' => ?_⟩
        · rw [List.map_id] at hp
          exact hne p ((ht.mem p).mp (List.mem_filter.mp hp).1)
        · refine ⟨l, zs, rfl, .inl ⟨SqL.of upd_same, fun r hr' => ?_⟩⟩
          refine k _ _ ?_ ⟨r, zs, rfl, upd_same, ?_⟩
          · have s4 : Same H (upd H2 d (.dT kvs)) := Same.put (s2.trans s3) hd0
            exact (s4.trans (Same.fresh hl')).trans (Same.fresh hr')
          · rw [← oddOf_sorted ht.nd ht.mem hperm hsrt]
            exact Prs.mono (Tups.fresh hr') (Prs.mono (Tups.fresh hl') hz')
end
end Rz
-- part W4
set_option Elab.async false
set_option linter.all false
set_option maxRecDepth 100000
set_option maxHeartbeats 4000000
namespace Rz
open PySem L2
section
variable {P : Program} {w : World} {K : PySem.W.Frag} {mg : Str → Option Value} {base : Heap}
/-! ### raised -/
/-- the sizes that raising asks for -/
def Fine (k : Nat) (ps : List (List Nat)) : Prop := ps.length ≤ 100 ∧ ∀ p ∈ ps, p ≠ [] ∧ p.sum ≤ 1000 ∧ p.length ≤ 1000 ∧ (k + 1) ^ p.length ≤ 100000
theorem flat_len {k : Nat} : ∀ {ps : List (List Nat)}, (∀ p ∈ ps, (k + 1) ^ p.length ≤ 100000) → (ps.flatMap fun p => ways p k).length ≤ ps.length * 100000
  | [], _ => by simp
  | p :: ps, h => by
    have h1 := flat_len (ps := ps) fun q hq => h q (List.mem_cons_of_mem _ hq)
    have h2 := ways_len p k
    have h3 := h p List.mem_cons_self
    rw [List.flatMap_cons, List.length_append, List.length_cons]
    omega
theorem flat_ne {k : Nat} {ps : List (List Nat)} (h : ∀ p ∈ ps, p ≠ []) : ∀ q ∈ ps.flatMap fun p => ways p k, q ≠ [] := by
  intro q hq e
  obtain ⟨p, hp, hw⟩ := List.mem_flatMap.mp hq
  have h1 := (way_len p k q (mem_ways.mp hw)).1
  rw [e] at h1
  exact h p hp (List.eq_nil_of_length_eq_zero h1.symm)
theorem flat_take {f : List Nat → List (List Nat)} {ps : List (List Nat)} {i : Nat} {p : List Nat} (h : ps[i]? = some p) : (ps.take (i + 1)).flatMap f = (ps.take i).flatMap f ++ f p := by
  rw [take_snoc h, List.flatMap_append, List.flatMap_cons, List.flatMap_nil, List.append_nil]
theorem Fine.take {k : Nat} {ps : List (List Nat)} (h : Fine k ps) (i : Nat) : ((ps.take i).flatMap fun p => ways p k).length ≤ 10000000 := by
  have h1 := flat_len (k := k) (ps := ps.take i) fun p hp => (h.2 p (List.mem_of_mem_take hp)).2.2.2
  have h2 := h.1
  have h3 : (ps.take i).length ≤ ps.length := by rw [List.length_take]; omega
  omega
def spRaised : Sp := fun vs H Q _ => ∃ x ps, ∃ k : Nat, vs = [x, .int (k : Nat)] ∧ IsS H x ps ∧ Fine k ps ∧ ∀ H' v, Same H H' → IsS H' v (raisedM ps k) → Q v H'
theorem scRaised : FnScope ["some", "k", "found", "product"] ["some", "k"] (defScope sRaised) := ⟨rfl, rfl, rfl, by decide +kernel, rfl, by decide +kernel, by decide +kernel⟩
theorem ok_raised {f : Addr} {fd : FuncData} (F : Fun K "raised" "raised" sRaised f fd) (C1 : Cal P w K mg base 2 "look_part_raising" ["k"] spLook) (C2 : Cal P w K mg base 3 "raised_product" ["product", "k"] spRaisedProduct) (C3 : Cal P w K mg base 1 "sum_of_products" ["products"] spSop) :
    FnOk P w K mg base CX0 4 f fd ["some", "k"] spRaised := by
  refine F.ok scRaised (fun vs H Q E h => ?_) (fun cdv A outer s H vs Q E hr h => ?_)
  · obtain ⟨x, ps, k, rfl, _⟩ := h
    rfl
  · obtain ⟨x, ps, m, rfl, ⟨t, xs, rfl, ht, hps⟩, hf, k⟩ := h
    have hbig := sizeLine_big
    have hlen : xs.length = ps.length := hps.length
    refine ⟨_, pss_cons (ps_expr (pc C1 (hr.mono (by decide)) (by rfl) (pa_cons (pv 1) pa_nil)))
      (pss_cons (ps_set (i := 2) scRaised.nd rfl (.inl rfl) (pe_lst pa_nil))
      (pss_cons (ps_for PassesOwn.never rfl (pi_tup (pv 0)) (pg_name (i := 3) scRaised.nd rfl (.inl rfl))
        (pss_one (ps_expr (pe_bm PySem.F.plainAttrs_list PySem.F.slot_list_extend PySem.F.type_list_extend mt_extend (pv 2) (pa_cons (pc C2 hr (by rfl) (pa_cons (pv 3) (pa_cons (pv 1) pa_nil))) pa_nil)))))
      (pss_one (ps_ret (pc C3 (hr.mono (by decide)) (by rfl) (pa_cons (pv 2) pa_nil)))))), ?_⟩
    refine ⟨_, rfl, m, rfl, Nat.zero_le _, fun fl hfl => ?_⟩
    have s0 := Same.fresh (o := .lst []) hfl
    refine ⟨_, rfl, t, rfl, ⟨_, SqT.of (s0 _ _ ht)⟩, for_it (walk_tup (K := K) (a := t) (xs := xs)) (fun i σ H' => ∃ ys pv, σ = [some (.ref t), some (.int (m : Nat)), some (.ref fl), pv] ∧ Same H H' ∧ H' fl = some (.lst ys) ∧ Paired (IsP H') ys ((ps.take i).flatMap fun p => ways p m))
      ⟨[], none, rfl, s0, upd_same, .nil⟩ (fun i σ H' _ ⟨_, _, _, s, _⟩ => SqT.of (s _ _ ht)) ?_ ?_⟩
    · rintro i x σ Ho H1 hi ⟨ys, pv, rfl, s1, hy, pr⟩ ⟨rfl, hx⟩
      obtain ⟨p, hp, hpx⟩ := Pd.get hps hx
      obtain ⟨f1, f2, f3, f4⟩ := hf.2 p (List.mem_of_getElem? hp)
      refine ⟨_, rfl, .inl ⟨rfl, _, SqL.of hy⟩, ?_⟩
      refine ⟨_, rfl, _, rfl, x, p, m, rfl, hpx.mono (Tups.of s1), f2, f3, f4, fun H2 l zs s2 hl hz => ?_⟩
      have hb1 := hf.take i
      have hyl : ys.length = _ := pr.length
      have hzl : zs.length = _ := hz.length
      have hb2 := ways_len p m
      refine ⟨fl, l, ys, zs, rfl, rfl, s2 _ _ hy, hl, by omega, ?_⟩
      have tp := Tups.put (o := .lst (ys ++ zs)) (s2 _ _ hy) trivial
      refine ⟨_, _, rfl, Same.put (s1.trans s2) hfl, upd_same, ?_⟩
      rw [flat_take hp]
      exact Pd.app (Prs.mono ((Tups.of s2).trans tp) pr) (Prs.mono tp hz)
    · rintro σ H1 ⟨ys, pv, rfl, s1, hy, pr⟩
      have hb1 := hf.take xs.length
      rw [List.take_of_length_le (by omega)] at pr hb1
      refine ⟨_, rfl, fl, ys, _, rfl, hy, pr, flat_ne fun p hp => (hf.2 p hp).1, by omega, fun H2 v s2 hv => ?_⟩
      exact k _ _ (s1.trans s2) hv
/-! ### _law_odd -/
theorem scOdd : FnScope ["_law_things", "_law_odd_here", "_law_thing"] ["_law_things"] (defScope sOdd) := ⟨rfl, rfl, rfl, by decide +kernel, rfl, by decide +kernel, by decide +kernel⟩
theorem ok_odd {f : Addr} {fd : FuncData} (F : Fun K "_law_odd" "_law_odd" sOdd f fd) (T : Bt mg) : FnOk P w K mg base CX0 1 f fd ["_law_things"] spSop := by
  refine F.ok scOdd (fun vs H Q E h => ?_) (fun cdv A outer s H vs Q E hr h => ?_)
  · obtain ⟨a, xs, ps, rfl, _⟩ := h
    rfl
  · obtain ⟨a, xs, ps, rfl, ha, hps, hne, hz, k⟩ := h
    have hu := hu_of hr
    have hlen : xs.length = ps.length := hps.length
    have hbig := sizeLine_big
    refine ⟨_, pss_cons (ps_set (i := 1) scOdd.nd rfl (.inr rfl) pe_dnewT)
      (pss_cons (ps_for PassesOwn.never rfl (pi_list (pv 0)) (pg_name (i := 2) scOdd.nd rfl (.inl rfl))
        (pss_one (ps_asg (pe_not (pe_dget2 hu (pv 1) (pv 2) pe_bl ⟨rfl, rfl, rfl, rfl⟩)) (pg_sub (pv 1) (pv 2) (set_dict hu)))))
      (pss_one (ps_ret (pe_callTy (call_tupleK K rfl) (by rfl) T.tuple bb_tuple (pa_cons (pe_callB (cr_sortPs K rfl (hu100 hr)) (by rfl) T.sorted bb_sorted (pa_cons
        (pe_lock (pe_lc (own := [("_law_thing", 2)]) (g := gName 2) rfl scOdd.nd (pi_keys (pv 1)) (blkOk_by (by kernel_rfl)) (fun _ _ _ _ _ => pg_name (i := 2) scOdd.nd rfl (.inl rfl))
          (fun _ _ _ _ _ => by exact pts_one (pt_val (pe_dget hu (pv 1) (pv 2) (fun _ _ => rfl)))) (fun _ _ _ _ _ => pv 2))) pa_nil)) pa_nil))))), ?_⟩
    intro d hd0
    have sd := Same.fresh (o := .dT []) hd0
    refine ⟨_, rfl, a, rfl, ⟨_, SqL.of (sd _ _ ha)⟩, for_it (walk_list (K := K) (a := a) (xs := xs)) (fun i σ H' => ∃ kvs ks pv, σ = [some (.ref a), some (.ref d), pv] ∧ Same H H' ∧ H' d = some (.dT kvs) ∧ DT (fun c => V.bl (c % 2 == 1)) (ps.take i) kvs ks)
      ⟨[], [], none, rfl, sd, upd_same, DT.nil _⟩ (fun i σ H' _ ⟨_, _, _, _, s, _⟩ => SqL.of (s _ _ ha)) ?_ ?_⟩
    · rintro i x σ Ho H1 hi ⟨kvs, ks, pv, rfl, s1, hd, ht⟩ ⟨rfl, hx⟩
      obtain ⟨p, hp, tq, rfl, hq⟩ := Pd.get hps hx
      have hq1 : H1 tq = some (.tup ((pks p).map kV)) := by rw [pks_kV]; exact s1 _ _ hq
      have hl := ht.len
      rw [List.length_take] at hl
      refine ⟨_, rfl, d, rfl, .inr ⟨kvs, .inl hd⟩, _, rfl, _, DGet.t hd hq1, _, ht.look p, ?_⟩
      refine ⟨_, rfl, _, rfl, d, _, rfl, DPut.t hd hq1 (by omega), ?_⟩
      obtain ⟨ks', ht'⟩ := ht.put p
      have e0 : (!(((ps.take i).count p) % 2 == 1)) = (((ps.take i).count p + 1) % 2 == 1) := by
        have : ((ps.take i).count p) % 2 = 0 ∨ ((ps.take i).count p) % 2 = 1 := by omega
        rcases this with q | q
        · have q2 : ((ps.take i).count p + 1) % 2 = 1 := by omega
          rw [q, q2]
          rfl
        · have q2 : ((ps.take i).count p + 1) % 2 = 0 := by omega
          rw [q, q2]
          rfl
      rw [e0]
      refine ⟨_, ks', _, rfl, Same.put s1 hd0, upd_same, ?_⟩
      rw [take_snoc hp]
      exact ht'
    · rintro σ H1 ⟨kvs, ks, pv, rfl, s1, hd, ht⟩
      rw [List.take_of_length_le (by omega)] at ht
      have hl := ht.len
      have hkl := ht.klen
      refine ⟨d, _, hd, trivial, fun od => ?_⟩
      have s2 : Same H (upd H1 d (.frz od (.dT kvs))) := Same.put s1 hd0
      refine ⟨_, rfl, d, od, rfl, .inr ⟨kvs, upd_same, fun D hD => lc_data (walk_keysT (d := d) (o := od) (kvs := kvs)) ks (fun p => ps.count p % 2 == 1) id IsP hkl (by omega) hD (fun _ _ _ _ s h => h.mono s) (fun H' s' => s' _ _ upd_same) ?_ ?_⟩⟩
      · rintro i x Ho H2 p hp s3 ⟨rfl, ky, v, q, hkv, rfl, hq⟩ Z N hZ hN
        obtain ⟨rfl, hv⟩ := ht.get hkv hp
        have hd2 := s3 _ _ (upd_same (H := H1) (a := d) (o := .frz od (.dT kvs)))
        refine ⟨rfl, ?_⟩
        refine ⟨_, rfl, _, rfl, d, _, rfl, .inr ⟨kvs, _, q, .inr ⟨od, hd2⟩, rfl, hq, hv.symm⟩, _, rfl, ?_⟩
        refine ite2 (fun hf => ?_) (fun hf => ?_)
        · exact ⟨_, rfl, hZ _ _ hf (Same.refl _) ⟨q, rfl, by rw [pks_kV] at hq; exact hq⟩⟩
        · exact hN _ (by simpa using hf) (Same.refl _)
      · intro H2 ys s3 hD2 hys
        have hd2 := s3 _ _ (upd_same (H := H1) (a := d) (o := .frz od (.dT kvs)))
        refine ⟨hd2, ?_⟩
        have t3 : Tups H2 (upd H2 d (.dT kvs)) := Tups.put hd2 trivial
        have nD : D ≠ d := fun q => by
          rw [q, upd_same] at hD
          cases hD
        refine ⟨D, ys, _, rfl, SqL.of (by rw [upd_ne nD]; exact hD2), Prs.mono t3 hys, fun p hp => ?_, fun zs qs l hperm hsrt hz' hl' => ?_⟩
        · rw [List.map_id] at hp
          exact hne p ((ht.mem p).mp (List.mem_filter.mp hp).1)
        · refine ⟨l, zs, rfl, .inl ⟨SqL.of upd_same, fun r hr' => ?_⟩⟩
          refine k _ _ ?_ ⟨r, zs, rfl, upd_same, ?_⟩
          · have s4 : Same H (upd H2 d (.dT kvs)) := Same.put (s2.trans s3) hd0
            exact (s4.trans (Same.fresh hl')).trans (Same.fresh hr')
          · rw [← oddOf_sorted ht.nd ht.mem hperm hsrt]
            exact Prs.mono (Tups.fresh hr') (Prs.mono (Tups.fresh hl') hz')
end
end Rz
-- part W5
set_option Elab.async false
set_option linter.all false
set_option maxRecDepth 100000
set_option maxHeartbeats 4000000
namespace Rz
open PySem L2
section
variable {P : Program} {w : World} {K : PySem.W.Frag} {mg : Str → Option Value} {base : Heap}
/-! ### _law_raised -/
theorem scLr : FnScope ["_law_some_here", "_law_k", "_law_found", "_law_product", "_law_ways", "_law_e", "_law_further", "_law_grown", "_law_left", "_law_j"] ["_law_some_here", "_law_k"] (defScope sLawRaised) := ⟨rfl, rfl, rfl, by decide +kernel, rfl, by decide +kernel, by decide +kernel⟩
theorem min_if (e m : Nat) : (if ((m : Int) < (e : Int)) then (m : Int) else (e : Int)) + 1 = ((min e m + 1 : Nat) : Int) := by
  split <;> omega
theorem range_get {n i j : Nat} (h : (List.range n)[i]? = some j) : j = i := by
  obtain ⟨h1, h2⟩ := List.getElem?_eq_some_iff.mp h
  rw [List.getElem_range] at h2
  exact h2.symm
theorem ok_lawRaised {f : Addr} {fd : FuncData} (F : Fun K "_law_raised" "_law_raised" sLawRaised f fd) (T : Bt mg) (C : Cal P w K mg base 1 "_law_odd" ["_law_things"] spSop) : FnOk P w K mg base CX0 2 f fd ["_law_some_here", "_law_k"] spRaised := by
  refine F.ok scLr (fun vs H Q E h => ?_) (fun cdv A outer s H vs Q E hr h => ?_)
  · obtain ⟨x, ps, k, rfl, _⟩ := h
    rfl
  · obtain ⟨x, ps, m, rfl, ⟨tS, xS, rfl, htS, hps⟩, hfine, k⟩ := h
    have hbig := sizeLine_big
    have hlenS : xS.length = ps.length := hps.length
    refine ⟨_, pss_cons (ps_set (i := 2) scLr.nd rfl (.inl rfl) (pe_lst pa_nil))
      (pss_cons (ps_for PassesOwn.never rfl (pi_tup (pv 0)) (pg_name (i := 3) scLr.nd rfl (.inl rfl))
        (pss_cons (ps_set (i := 4) scLr.nd rfl (.inl rfl) (pe_lst (pa_cons (pe_tup (pa_cons (pe_tup pa_nil) (pa_cons (pv 1) pa_nil))) pa_nil)))
        (pss_cons (ps_for PassesOwn.never rfl (pi_tup (pv 3)) (pg_name (i := 5) scLr.nd rfl (.inr rfl))
          (pss_cons (ps_set (i := 6) scLr.nd rfl (.inl rfl) (pe_lst pa_nil))
          (pss_cons (ps_for PassesOwn.never rfl (pi_list (pv 4)) (pg_tup rfl (pgs_cons (pg_name (i := 7) scLr.nd rfl (.inr rfl)) (pgs_cons (pg_name (i := 8) scLr.nd rfl (.inr rfl)) pgs_nil)))
            (pss_one (ps_expr (pe_bm PySem.F.plainAttrs_list PySem.F.slot_list_extend PySem.F.type_list_extend mt_extend (pv 6) (pa_cons
              (pe_lc (own := [("_law_j", 9)]) (g := gName 9) rfl scLr.nd (pi_range1 (by rfl) T.range (pa_cons (pe_op op_add (pe_callB (call_min2 rfl) (by rfl) T.min bb_min (pa_cons (pv 5) (pa_cons (pv 8) pa_nil))) pe_int) pa_nil))
                (blkOk_by (by kernel_rfl)) (fun _ _ _ _ _ => pg_name (i := 9) scLr.nd rfl (.inl rfl)) (fun _ _ _ _ _ => by exact pts_one (pt_cmpR op_eq (pe_op op_and (pv 5) (pv 9)) (pv 9) (nomark _)))
                (fun _ _ _ _ _ => by exact pe_tup (pa_cons (pe_op (op_catK K rfl) (pv 7) (pe_tup (pa_cons (pe_op op_add (pv 5) (pv 9)) pa_nil))) (pa_cons (pe_op op_sub (pv 8) (pv 9)) pa_nil)))) pa_nil)))))
          (pss_one (ps_set (i := 4) scLr.nd rfl (.inl rfl) (pv 6))))))
        (pss_one (ps_expr (pe_bm PySem.F.plainAttrs_list PySem.F.slot_list_extend PySem.F.type_list_extend mt_extend (pv 2) (pa_cons
          (pe_lc (own := [("_law_grown", 7), ("_law_left", 8)]) rfl scLr.nd (pi_list (pv 4)) (blkOk_by (by kernel_rfl))
            (fun _ _ _ _ _ => by exact pg_tupK K rfl (n := 2) rfl (pgs_cons (pg_name (i := 7) scLr.nd rfl (.inl rfl)) (pgs_cons (pg_name (i := 8) scLr.nd rfl (.inl rfl)) pgs_nil)))
            (fun _ _ _ _ _ => by exact pts_one (pt_cmpR op_eq (pv 8) pe_int (nomark _))) (fun _ _ _ _ _ => pv 7)) pa_nil)))))))
      (pss_one (ps_ret (pc C (hr.mono (by decide)) (by rfl) (pa_cons (pv 2) pa_nil))))), ?_⟩
    refine ⟨Nat.zero_le _, fun gl hgl0 => ?_⟩
    have sg := Same.fresh (o := .lst []) hgl0
    refine ⟨_, rfl, tS, rfl, ⟨_, SqT.of (sg _ _ htS)⟩, for_it (walk_tup (K := K) (a := tS) (xs := xS)) (fun i σ H' => ∃ zs a3 a4 a5 a6 a7 a8 a9, σ = [some (.ref tS), some (.int (m : Nat)), some (.ref gl), a3, a4, a5, a6, a7, a8, a9] ∧ Same H H' ∧ H' gl = some (.lst zs) ∧ Paired (IsP H') zs ((ps.take i).flatMap fun p => ways p m))
      ⟨[], none, none, none, none, none, none, none, rfl, sg, upd_same, .nil⟩ (fun i σ H' _ ⟨_, _, _, _, _, _, _, _, _, s, _⟩ => SqT.of (s _ _ htS)) ?_ ?_⟩
    · rintro iS xp σ HoS HS hiS ⟨zs, a3, a4, a5, a6, a7, a8, a9, rfl, sS, hgl, prS⟩ ⟨rfl, hxS⟩
      obtain ⟨p, hp, tp, rfl, htp0⟩ := Pd.get hps hxS
      obtain ⟨f1, hsum, hpl, hb⟩ := hfine.2 p (List.mem_of_getElem? hp)
      have htp := sS _ _ htp0
      refine ⟨Nat.zero_le _, fun u hu => ⟨_, rfl, (by show 2 ≤ sizeLine; omega), fun t ht => ⟨(by show 1 ≤ sizeLine; omega), fun wl hwl => ?_⟩⟩⟩
      have su : Same HS (upd HS u (.tup [])) := Same.fresh hu
      have st : Same HS (upd (upd HS u (.tup [])) t (.tup [.ref u, .int (m : Nat)])) := su.trans (Same.fresh ht)
      have sw := Same.fresh (o := .lst [.ref t]) hwl
      have h1 : (upd (upd (upd HS u (.tup [])) t (.tup [.ref u, .int (m : Nat)])) wl (.lst [.ref t])) t = some (.tup [.ref u, .int (m : Nat)]) := sw _ _ upd_same
      have h2 : (upd (upd (upd HS u (.tup [])) t (.tup [.ref u, .int (m : Nat)])) wl (.lst [.ref t])) u = some (.tup []) := sw _ _ (Same.fresh ht _ _ upd_same)
      refine ⟨_, rfl, tp, rfl, ⟨_, SqT.of (sw _ _ (st _ _ htp))⟩, for_it (walk_tup (K := K) (a := tp) (xs := pvs p)) (fun i σ H' => ∃ wl xs ev fv mv lv jv, σ = [some (.ref tS), some (.int (m : Nat)), some (.ref gl), some (.ref tp), some (.ref wl), ev, fv, mv, lv, jv] ∧ Same HS H' ∧ HS wl = none ∧
          H' wl = some (.lst xs) ∧ Paired (IsW H') xs (wayL (p.take i) [([], m)]))
        ⟨wl, _, a5, a6, a7, a8, a9, rfl, st.trans sw, st.free hwl, upd_same, .cons ⟨t, u, rfl, h1, h2⟩ .nil⟩ (fun i σ H' _ ⟨_, _, _, _, _, _, _, _, s, _⟩ => SqT.of (s _ _ htp)) ?_ ?_⟩
      · rintro i x σ Ho H1 hi ⟨wl, xs, ev, fv, mv, lv, jv, rfl, s1, w0, hw, pr⟩ ⟨rfl, hx⟩
        obtain ⟨e, he, rfl⟩ := pvs_get hx
        have hxl : xs.length = (wayL (p.take i) [([], m)]).length := pr.length
        have hbw := wayL_bound p m i
        refine ⟨Nat.zero_le _, fun fl hfl => ?_⟩
        have s2 := Same.fresh (o := .lst []) hfl
        refine ⟨_, rfl, wl, rfl, ⟨_, SqL.of (s2 _ _ hw)⟩, for_it (walk_list (K := K) (a := wl) (xs := xs)) (fun j σ H' => ∃ ys mv lv jv, σ = [some (.ref tS), some (.int (m : Nat)), some (.ref gl), some (.ref tp), some (.ref wl), some (.int (e : Nat)), some (.ref fl), mv, lv, jv] ∧ Same H1 H' ∧
            H' fl = some (.lst ys) ∧ Paired (IsW H') ys (wayStep e ((wayL (p.take i) [([], m)]).take j)))
          ⟨[], mv, lv, jv, rfl, s2, upd_same, .nil⟩ (fun j σ H' _ ⟨_, _, _, _, _, s, _⟩ => SqL.of (s _ _ hw)) ?_ ?_⟩
        · rintro j x σ Ho2 H2 hj ⟨ys, mv, lv, jv, rfl, s3, hf, py⟩ ⟨rfl, hx2⟩
          obtain ⟨wy, hwy, t, u, rfl, ht, hu⟩ := Pd.get pr hx2
          obtain ⟨g, left⟩ := wy
          have ht2 := s3 _ _ ht
          have hu2 := s3 _ _ hu
          have hep : e ≤ 1000 := Nat.le_trans (mem_le_sum (List.mem_of_getElem? he)) hsum
          have hyl : ys.length = (wayStep e ((wayL (p.take i) [([], m)]).take j)).length := py.length
          have hbs := wayStep_bound p m he j
          have hsn : (wayL (p.take i) [([], m)]).take (j + 1) = (wayL (p.take i) [([], m)]).take j ++ [(g, left)] := take_snoc hwy
          have hbs2 := wayStep_bound p m he (j + 1)
          rw [hsn, wayStep_app, wayStep_one, List.length_append, List.length_map] at hbs2
          have hsl : (wayStep e ((wayL (p.take i) [([], m)]).take j)).length + (steps e left).length ≤ (m + 1) ^ p.length := hbs2
          have hgl : g.length ≤ 1000 := by
            have h1 := wayL_glen (p.take i) (start_glen m) _ (List.mem_of_getElem? hwy)
            rw [List.length_take] at h1
            have h2 : g.length ≤ 0 + min i p.length := h1
            omega
          have ep : ∀ q : Nat, pvs (g ++ [e + q]) = pvs g ++ [V.int ((e : Nat) + (q : Nat) : Int)] := fun q => by
            rw [pvs_app]
            rfl
          refine ⟨t, _, rfl, SqT.of ht2, rfl, _, _, rfl, _, _, rfl, rfl, ?_⟩
          refine ⟨_, rfl, .inl ⟨rfl, _, SqL.of hf⟩, ?_⟩
          refine ⟨_, rfl, _, rfl, _, _, rfl, _, _, rfl, rfl, (if ((left : Int) < (e : Int)) then (left : Int) else (e : Int)) + 1, rfl, ?_, ?_, ?_⟩
          · rw [min_if]; omega
          · rw [min_if]; omega
          · rw [min_if]
            intro D hD
            refine lc_data (walk_range (lo := 0) (n := ((min e left + 1 : Nat) : Int).toNat)) (List.range (min e left + 1)) (fun j => e &&& j == j) (fun j => (g ++ [e + j], left - j)) IsW (by rw [List.length_range]; rfl) (by show min e left + 1 ≤ sizeLine; omega) hD (fun _ _ _ _ s h => h.mono s) (fun _ _ => trivial) ?_ ?_
            · rintro a x Ho4 H4 q hq s5 ⟨rfl, hx⟩ Z N hZ hN
              have hqa := range_get hq
              subst hqa
              obtain rfl : x = V.int (q : Nat) := hx.trans (z0 q)
              have hqm : q ≤ min e left := by
                have := List.mem_range.mp (List.mem_of_getElem? hq)
                omega
              have hu4 := s5 _ _ hu2
              refine ⟨rfl, ?_⟩
              refine ⟨_, rfl, _, rfl, _, _, rfl, rfl, _, rfl, rfl, _, rfl, ?_⟩
              rw [band_eq]
              refine ite2 (fun hf' => ?_) (fun hf' => hN _ (by simpa using hf') (Same.refl _))
              have fin : ∀ (H6 : Hp) (o2 : Addr), Same H4 H6 → H6 o2 = some (.tup (pvs (g ++ [e + q]))) → ∀ o3, H6 o3 = none → Z (.ref o3) (upd H6 o3 (.tup [.ref o2, .int ((left : Nat) - (q : Nat) : Int)])) := fun H6 o2 s6 h6 o3 h3 => by
                refine hZ _ _ hf' (s6.trans (Same.fresh h3)) ⟨o3, o2, rfl, ?_, Same.fresh h3 _ _ h6⟩
                rw [upd_same]
                have : ((left : Int) - (q : Int)) = ((left - q : Nat) : Int) := by omega
                rw [this]
              refine ⟨_, rfl, _, rfl, _, rfl, _, _, rfl, rfl, (by show 1 ≤ sizeLine; omega), fun o1 ho1 => ?_⟩
              have s5' := Same.fresh (o := .tup [V.int ((e : Nat) + (q : Nat) : Int)]) ho1
              refine ⟨_, _, _, _, rfl, rfl, SqT.of (s5' _ _ hu4), SqT.of upd_same, (by rw [pvs_len]; show g.length + 1 ≤ sizeLine; omega), fun hg => ?_, fun _ hg => (nomatch hg), fun _ _ o2 ho2 => ?_⟩
              · have eg : pvs g = [] := hg
                refine ⟨_, rfl, _, rfl, _, _, rfl, rfl, (by show 2 ≤ sizeLine; omega), fin _ o1 s5' ?_⟩
                rw [upd_same, ep, eg]
                rfl
              · refine ⟨_, rfl, _, rfl, _, _, rfl, rfl, (by show 2 ≤ sizeLine; omega), fin _ o2 (s5'.trans (Same.fresh ho2)) ?_⟩
                rw [upd_same, ep]
            · intro H4 zs' s6 hD4 hzs
              have hzl : zs'.length = (steps e left).length := by rw [hzs.length, List.length_map]; rfl
              refine ⟨fl, D, ys, zs', rfl, rfl, s6 _ _ hf, hD4, by omega, ?_⟩
              have tp4 := Tups.put (o := .lst (ys ++ zs')) (s6 _ _ hf) trivial
              refine ⟨ys ++ zs', _, _, _, rfl, Same.put (s3.trans s6) hfl, upd_same, ?_⟩
              rw [hsn, wayStep_app, wayStep_one]
              exact Pd.app (Prw.mono ((Tups.of s6).trans tp4) py) (Prw.mono tp4 hzs)
        · rintro σ H2 ⟨ys, mv, lv, jv, rfl, s3, hf, py⟩
          rw [List.take_of_length_le (by omega)] at py
          refine ⟨_, rfl, fl, ys, _, _, _, _, _, rfl, s1.trans s3, s1.free hfl, hf, ?_⟩
          rw [take_snoc he, wayL_snoc]
          exact py
      · rintro σ H1 ⟨wl, xs, ev, fv, mv, lv, jv, rfl, s1, w0, hw, pr⟩
        rw [pvs_len, List.take_length] at pr
        have hxl : xs.length = (wayL p [([], m)]).length := pr.length
        have hbw := wayL_bound p m p.length
        rw [List.take_length] at hbw
        have hgl1 := s1 _ _ hgl
        refine ⟨_, rfl, .inl ⟨rfl, _, SqL.of hgl1⟩, ?_⟩
        refine ⟨_, rfl, wl, rfl, ⟨_, SqL.of hw⟩, fun D hD => lc_data (walk_list (K := K) (a := wl) (xs := xs)) (wayL p [([], m)]) (fun w => w.2 == 0) (·.1) IsP hxl.symm (by omega) hD (fun _ _ _ _ s h => h.mono s) (fun H' s' => SqL.of (s' _ _ hw)) ?_ ?_⟩
        · rintro j x Ho2 H2 wy hwy s2 ⟨rfl, hx⟩ Z N hZ hN
          obtain ⟨w', hw', t, u, rfl, ht, hu⟩ := Pd.get pr hx
          rw [hwy] at hw'
          cases hw'
          obtain ⟨g, left⟩ := wy
          refine ⟨t, _, rfl, SqT.of (s2 _ _ ht), rfl, _, _, rfl, _, _, rfl, rfl, rfl, ?_⟩
          refine ⟨_, rfl, rfl, _, rfl, ?_⟩
          have e0 : decide (V.int ((left : Nat) : Int) = V.int 0) = (left == 0) := by
            rw [dec_int, Bool.eq_iff_iff, beq_iff_eq, beq_iff_eq]
            omega
          rw [e0]
          refine ite2 (fun hf => ?_) (fun hf => ?_)
          · exact ⟨_, rfl, hZ _ _ hf (Same.refl _) ⟨u, rfl, s2 _ _ hu⟩⟩
          · exact hN _ (by simpa using hf) (Same.refl _)
        · intro H2 ys s2 hD2 hys
          rw [wayL_start] at hys
          have hb1 := hfine.take iS
          have hzl : zs.length = _ := prS.length
          have hyl : ys.length = _ := hys.length
          have hb2 := ways_len p m
          refine ⟨gl, D, zs, ys, rfl, rfl, s2 _ _ hgl1, hD2, by omega, ?_⟩
          have tp4 := Tups.put (o := .lst (zs ++ ys)) (s2 _ _ hgl1) trivial
          refine ⟨zs ++ ys, _, _, _, _, _, _, _, rfl, Same.put (sS.trans (s1.trans s2)) hgl0, upd_same, ?_⟩
          rw [flat_take hp]
          exact Pd.app (Prs.mono (((Tups.of s1).trans (Tups.of s2)).trans tp4) prS) (Prs.mono tp4 hys)
    · rintro σ H1 ⟨zs, a3, a4, a5, a6, a7, a8, a9, rfl, s1, hy, pr⟩
      have hb1 := hfine.take xS.length
      rw [List.take_of_length_le (by omega)] at pr hb1
      refine ⟨_, rfl, gl, zs, _, rfl, hy, pr, flat_ne fun p hp => (hfine.2 p hp).1, by omega, fun H2 v s2 hv => ?_⟩
      exact k _ _ (s1.trans s2) hv
end
end Rz
-- part W6
set_option Elab.async false
set_option linter.all false
set_option maxRecDepth 100000
set_option maxHeartbeats 4000000
namespace Rz
open PySem L2
/-! ### bits of numbers from nought -/
theorem nat_xor_and : ∀ (n a b : Nat), a ≤ n → (a ^^^ b) + 2 * (a &&& b) = a + b
  | 0, a, b, h => by
    have : a = 0 := by omega
    subst this
    simp
  | n + 1, a, b, h => by
    by_cases ha : a = 0
    · subst ha
      simp
    · have ih := nat_xor_and n (a / 2) (b / 2) (by omega)
      have e1 := xor_mod a b
      have e2 := xor_half a b
      have e3 := land_mod a b
      have e4 := land_div a b
      rw [← e2, ← e4] at ih
      have h1 : a % 2 = 0 ∨ a % 2 = 1 := by omega
      have h2 : b % 2 = 0 ∨ b % 2 = 1 := by omega
      rcases h1 with h1 | h1 <;> rcases h2 with h2 | h2 <;> rw [h1, h2] at e1 e3 <;> omega
theorem bxor_eq (a b : Nat) : Builtin.bitXor (a : Int) (b : Int) = ((a ^^^ b : Nat) : Int) := by
  rw [PyProof.Rows.bitXor_and, PySem.W.os_band]
  have := nat_xor_and a a b (Nat.le_refl _)
  omega
theorem bit_eq (n l : Nat) : decide (V.int (Builtin.bitAnd (((n : Nat) : Int) / 2 ^ l) 1) = V.int 1) = n.testBit l := by
  rw [PyProof.Rows.bitAnd_m1, dec_int, Nat.testBit_eq_decide_div_mod_eq]
  have e : ((n : Int) / 2 ^ l) = ((n / 2 ^ l : Nat) : Int) := by
    rw [Int.natCast_ediv, Int.natCast_pow]
    rfl
  rw [e, Bool.eq_iff_iff, beq_iff_eq, decide_eq_true_eq]
  omega
/-! ### places -/
def pks2 (i : Nat) : List (List Nat) → List (List Key × V)
  | [] => []
  | p :: l => (pks p, V.int (i : Nat)) :: pks2 (i + 1) l
theorem pks2_snoc (p : List Nat) : ∀ (i : Nat) (l : List (List Nat)), pks2 i (l ++ [p]) = pks2 i l ++ [(pks p, V.int ((i + l.length : Nat) : Int))]
  | i, [] => rfl
  | i, q :: l => by
    show (pks q, V.int (i : Nat)) :: pks2 (i + 1) (l ++ [p]) = (pks q, V.int (i : Nat)) :: (pks2 (i + 1) l ++ _)
    rw [pks2_snoc p (i + 1) l]
    have : i + 1 + l.length = i + (q :: l).length := by rw [List.length_cons]; omega
    rw [this]
theorem pks2_len : ∀ (i : Nat) (l : List (List Nat)), (pks2 i l).length = l.length
  | _, [] => rfl
  | i, p :: l => by
    show (pks2 (i + 1) l).length + 1 = l.length + 1
    rw [pks2_len]
theorem pks2_none {p : List Nat} : ∀ (i : Nat) {l : List (List Nat)}, p ∉ l → valV (pks2 i l) (pks p) = none
  | _, [], _ => rfl
  | i, q :: l, h => by
    show valV ((pks q, V.int (i : Nat)) :: pks2 (i + 1) l) (pks p) = none
    rw [valV_neg (fun e => h (by rw [pks_inj e]; exact List.mem_cons_self))]
    exact pks2_none (i + 1) fun z => h (List.mem_cons_of_mem _ z)
theorem pks2_at {p : List Nat} : ∀ (i : Nat) {l : List (List Nat)}, p ∈ l → valV (pks2 i l) (pks p) = some (V.int ((i + plc l p : Nat) : Int))
  | i, q :: l, h => by
    show valV ((pks q, V.int (i : Nat)) :: pks2 (i + 1) l) (pks p) = _
    unfold plc
    by_cases e : q = p
    · subst e
      rw [valV_pos rfl, List.idxOf_cons_self]
      rfl
    · rw [valV_neg (fun z => e (pks_inj z)), pks2_at (i + 1) ((List.mem_cons.mp h).resolve_left fun z => e z.symm), List.idxOf_cons]
      have : (q == p) = false := by simpa using e
      rw [this]
      show some (V.int ((i + 1 + plc l p : Nat) : Int)) = some (V.int ((i + (plc l p + 1) : Nat) : Int))
      rw [show i + 1 + plc l p = i + (plc l p + 1) by omega]
/-! ### leads -/
def ki (l : Nat) : Key := Sum.inl ((l : Nat) : Int)
theorem ki_inj {a b : Nat} (h : ki a = ki b) : a = b := by
  have h' : ((a : Nat) : Int) = ((b : Nat) : Int) := Sum.inl.inj h
  exact Int.ofNat.inj h'
structure LD (H : Hp) (kl : List (Key × V)) (S : List (Nat × Nat)) : Prop where
  keys : ∃ ks : List Nat, kl.map (·.1) = ks.map ki ∧ ks.Perm (S.map (·.1))
  desc : S.Pairwise fun a b => b.1 < a.1
  at_ : ∀ lv ∈ S, ∃ (t : Addr) (m : Int), valV kl (ki lv.1) = some (.ref t) ∧ H t = some (.tup [.int (lv.2 : Nat), .int m])
theorem LD.nil (H : Hp) : LD H [] [] := ⟨⟨[], rfl, List.Perm.nil⟩, List.Pairwise.nil, fun _ h => absurd h (by simp)⟩
theorem LD.mono {H H' : Hp} {kl : List (Key × V)} {S : List (Nat × Nat)} (s : Tups H H') (h : LD H kl S) : LD H' kl S :=
  ⟨h.keys, h.desc, fun lv hm => by
    obtain ⟨t, m, h1, h2⟩ := h.at_ lv hm
    exact ⟨t, m, h1, s _ _ h2⟩⟩
theorem LD.some_iff {H : Hp} {kl : List (Key × V)} {S : List (Nat × Nat)} (h : LD H kl S) (l : Nat) : (valV kl (ki l)).isSome = S.any fun lv => lv.1 == l := by
  rw [Bool.eq_iff_iff, List.any_eq_true]
  constructor
  · intro hs
    obtain ⟨v, hv⟩ := Option.isSome_iff_exists.mp hs
    have hk := valV_in hv
    obtain ⟨ks, e1, e2⟩ := h.keys
    rw [e1] at hk
    obtain ⟨l', hl', e⟩ := List.mem_map.mp hk
    rw [ki_inj e] at hl'
    obtain ⟨lv, hlv, e3⟩ := List.mem_map.mp (e2.mem_iff.mp hl')
    exact ⟨lv, hlv, by simpa using e3⟩
  · rintro ⟨lv, hm, e⟩
    obtain ⟨t, m, h1, _⟩ := h.at_ lv hm
    rw [← show lv.1 = l by simpa using e, h1]
    rfl
theorem mem_insD {l v : Nat} {lv : Nat × Nat} : ∀ {S : List (Nat × Nat)}, S.Pairwise (fun a b => b.1 < a.1) → (lv ∈ insD l v S ↔ lv = (l, v) ∨ (lv ∈ S ∧ lv.1 ≠ l))
  | [], _ => by simp [insD]
  | (m, u) :: S, h => by
    obtain ⟨h1, h2⟩ := List.pairwise_cons.mp h
    unfold insD
    by_cases e : m = l
    · subst e
      rw [if_pos rfl, List.mem_cons, List.mem_cons]
      constructor
      · rintro (q | q)
        · exact .inl q
        · exact .inr ⟨.inr q, Nat.ne_of_lt (h1 lv q)⟩
      · rintro (q | ⟨q | q, g⟩)
        · exact .inl q
        · rw [q] at g; exact absurd rfl g
        · exact .inr q
    · rw [if_neg e]
      by_cases g : m < l
      · rw [if_pos g, List.mem_cons]
        constructor
        · rintro (q | q)
          · exact .inl q
          · refine .inr ⟨q, ?_⟩
            rcases List.mem_cons.mp q with r | r
            · rw [r]; exact e
            · have := h1 lv r
              show lv.1 ≠ l
              have : lv.1 < m := this
              omega
        · rintro (q | ⟨q, _⟩)
          · exact .inl q
          · exact .inr q
      · rw [if_neg g, List.mem_cons, mem_insD h2, List.mem_cons]
        constructor
        · rintro (q | q | ⟨q, r⟩)
          · refine .inr ⟨.inl q, ?_⟩
            rw [q]; exact e
          · exact .inl q
          · exact .inr ⟨.inr q, r⟩
        · rintro (q | ⟨q | q, r⟩)
          · exact .inr (.inl q)
          · exact .inl q
          · exact .inr (.inr ⟨q, r⟩)
theorem desc_insD {l v : Nat} : ∀ {S : List (Nat × Nat)}, S.Pairwise (fun a b => b.1 < a.1) → (insD l v S).Pairwise (fun a b => b.1 < a.1)
  | [], _ => by simp [insD]
  | (m, u) :: S, h => by
    obtain ⟨h1, h2⟩ := List.pairwise_cons.mp h
    unfold insD
    by_cases e : m = l
    · subst e
      rw [if_pos rfl]
      exact List.pairwise_cons.mpr ⟨fun b hb => h1 b hb, h2⟩
    · rw [if_neg e]
      by_cases g : m < l
      · rw [if_pos g]
        refine List.pairwise_cons.mpr ⟨fun b hb => ?_, h⟩
        rcases List.mem_cons.mp hb with r | r
        · rw [r]; exact g
        · have : b.1 < m := h1 b r
          show b.1 < l
          omega
      · rw [if_neg g]
        refine List.pairwise_cons.mpr ⟨fun b hb => ?_, desc_insD h2⟩
        rcases (mem_insD h2).mp hb with r | ⟨r, _⟩
        · rw [r]
          show l < m
          omega
        · exact h1 b r
theorem keys_insD {l v : Nat} : ∀ {S : List (Nat × Nat)}, S.Pairwise (fun a b => b.1 < a.1) → ((insD l v S).map (·.1)).Perm (if l ∈ S.map (·.1) then S.map (·.1) else l :: S.map (·.1))
  | [], _ => by simp [insD]
  | (m, u) :: S, h => by
    obtain ⟨h1, h2⟩ := List.pairwise_cons.mp h
    unfold insD
    by_cases e : m = l
    · subst e
      rw [if_pos rfl, if_pos (by simp)]
      exact List.Perm.refl _
    · rw [if_neg e]
      by_cases g : m < l
      · have hn : l ∉ ((m, u) :: S).map (·.1) := by
          intro q
          rw [List.map_cons] at q
          rcases List.mem_cons.mp q with r | r
          · exact e r.symm
          · obtain ⟨b, hb, r⟩ := List.mem_map.mp r
            have : b.1 < m := h1 b hb
            omega
        rw [if_pos g, if_neg hn]
        exact List.Perm.refl _
      · rw [if_neg g, List.map_cons, List.map_cons]
        have ih := keys_insD (l := l) (v := v) h2
        by_cases q : l ∈ S.map (·.1)
        · rw [if_pos q] at ih
          rw [if_pos (List.mem_cons_of_mem _ q)]
          exact ih.cons _
        · rw [if_neg q] at ih
          have hn : l ∉ m :: S.map (·.1) := by
            intro r
            rcases List.mem_cons.mp r with r | r
            · exact e r.symm
            · exact q r
          rw [if_neg hn]
          exact (ih.cons m).trans (List.Perm.swap _ _ _)
theorem putK_keysK {kvs : List (Key × V)} {k : Key} {v u : V} (h : valV kvs k = some u) : (putK kvs k v).map (·.1) = kvs.map (·.1) := by
  have hany : (kvs.any fun kv => decide (kv.1 = k)) = true := by
    rw [valV_any, h]
    rfl
  unfold putK
  rw [if_pos hany, List.map_map]
  congr 1
  funext kv
  show (if kv.1 = k then (kv.1, v) else kv).1 = kv.1
  split <;> rfl
theorem LD.put {H : Hp} {kl : List (Key × V)} {S : List (Nat × Nat)} (h : LD H kl S) {l v : Nat} {t : Addr} {m : Int} (ht : H t = some (.tup [.int (v : Nat), .int m])) : LD H (putK kl (ki l) (.ref t)) (insD l v S) := by
  obtain ⟨ks, e1, e2⟩ := h.keys
  have hk := keys_insD (l := l) (v := v) h.desc
  refine ⟨?_, desc_insD h.desc, fun lv hm => ?_⟩
  · cases hv : valV kl (ki l) with
    | some u =>
      have hin : l ∈ S.map (·.1) := by
        have := valV_in hv
        rw [e1] at this
        obtain ⟨l', hl', e⟩ := List.mem_map.mp this
        rw [ki_inj e] at hl'
        exact e2.mem_iff.mp hl'
      rw [if_pos hin] at hk
      exact ⟨ks, (putK_keysK hv).trans e1, e2.trans hk.symm⟩
    | none =>
      have hin : l ∉ S.map (·.1) := by
        intro z
        have := valV_not hv
        rw [e1] at this
        exact this (List.mem_map.mpr ⟨l, e2.mem_iff.mpr z, rfl⟩)
      rw [if_neg hin] at hk
      refine ⟨ks ++ [l], ?_, ?_⟩
      · rw [putK_new _ hv, List.map_append, List.map_append, e1]
        rfl
      · exact (List.perm_append_comm.trans (e2.cons l)).trans hk.symm
  · rw [valV_put]
    rcases (mem_insD h.desc).mp hm with q | ⟨q, r⟩
    · subst q
      rw [if_pos rfl]
      exact ⟨t, m, rfl, ht⟩
    · rw [if_neg (fun z => r (ki_inj z))]
      exact h.at_ lv q
theorem desc_uniq : ∀ {a b : List Int}, a.Perm b → a.Pairwise (· ≥ ·) → b.Pairwise (· ≥ ·) → a = b
  | [], b, p, _, _ => (List.Perm.eq_nil p.symm).symm
  | x :: a, [], p, _, _ => absurd p.length_eq (by simp)
  | x :: a, y :: b, p, ha, hb => by
    obtain ⟨a1, a2⟩ := List.pairwise_cons.mp ha
    obtain ⟨b1, b2⟩ := List.pairwise_cons.mp hb
    have e : x = y := by
      have h1 : x ≤ y := by
        rcases List.mem_cons.mp (p.mem_iff.mp (List.mem_cons_self (a := x) (l := a))) with q | q
        · omega
        · exact b1 x q
      have h2 : y ≤ x := by
        rcases List.mem_cons.mp (p.mem_iff.mpr (List.mem_cons_self (a := y) (l := b))) with q | q
        · omega
        · exact a1 y q
      omega
    subst e
    rw [desc_uniq p.cons_inv a2 b2]
/-- the leads, the greatest first -/
theorem LD.sorted {H : Hp} {kl : List (Key × V)} {S : List (Nat × Nat)} (h : LD H kl S) : ∃ ks : List Int, kl.map (·.1) = ks.map Sum.inl ∧ ∀ ns : List Int, ns.Perm ks → ns.Pairwise (· ≥ ·) → ns = S.map fun lv => ((lv.1 : Nat) : Int) := by
  obtain ⟨ks, e1, e2⟩ := h.keys
  refine ⟨ks.map fun l => ((l : Nat) : Int), ?_, fun ns hp hs => ?_⟩
  · rw [e1, List.map_map]
    rfl
  · refine desc_uniq (hp.trans ?_) hs ?_
    · have := e2.map fun l => ((l : Nat) : Int)
      rw [List.map_map] at this
      exact this
    · rw [List.pairwise_map]
      exact h.desc.imp fun {a b} hab => by
        show ((a.1 : Nat) : Int) ≥ ((b.1 : Nat) : Int)
        omega
/-! ### the space's object -/
def sf (pl pd ld po : Addr) : List (Str × V) := putF "put_ones" (.ref po) (putF "leads" (.ref ld) (putF "places" (.ref pd) (putF "products" (.ref pl) [])))
theorem sf_products (pl pd ld po : Addr) : (sf pl pd ld po).lookup ("products" : Str) = some (.ref pl) := by
  unfold sf
  rw [lookup_putF, if_neg (by decide +kernel), lookup_putF, if_neg (by decide +kernel), lookup_putF, if_neg (by decide +kernel), lookup_putF, if_pos rfl]
theorem sf_places (pl pd ld po : Addr) : (sf pl pd ld po).lookup ("places" : Str) = some (.ref pd) := by
  unfold sf
  rw [lookup_putF, if_neg (by decide +kernel), lookup_putF, if_neg (by decide +kernel), lookup_putF, if_pos rfl]
theorem sf_leads (pl pd ld po : Addr) : (sf pl pd ld po).lookup ("leads" : Str) = some (.ref ld) := by
  unfold sf
  rw [lookup_putF, if_neg (by decide +kernel), lookup_putF, if_pos rfl]
theorem sf_puts (pl pd ld po : Addr) : (sf pl pd ld po).lookup ("put_ones" : Str) = some (.ref po) := by
  unfold sf
  rw [lookup_putF, if_pos rfl]
theorem sf_no {m : Str} (pl pd ld po : Addr) (h1 : ¬ m = "put_ones") (h2 : ¬ m = "leads") (h3 : ¬ m = "places") (h4 : ¬ m = "products") : (sf pl pd ld po).lookup m = none := by
  unfold sf
  rw [lookup_putF, if_neg h1, lookup_putF, if_neg h2, lookup_putF, if_neg h3, lookup_putF, if_neg h4]
  rfl
structure SpT (K : PySem.W.Frag) (mg : Str → Option Value) (C : Addr) : Prop where
  cl : Cls K C
  nPr : NoAttr K C "products"
  nPl : NoAttr K C "places"
  nLe : NoAttr K C "leads"
  nPu : NoAttr K C "put_ones"
  mgC : mg "Space" = some (.ref C)
/-- a mark: a part and a product -/
def IsM (H : Hp) (v : V) : Prop := ∃ (t u : Addr) (k : Int) (p : List Nat), v = .ref t ∧ H t = some (.tup [.int k, .ref u]) ∧ H u = some (.tup (pvs p)) ∧ p ≠ []
theorem IsM.mono {H H' : Hp} (s : Tups H H') {v : V} (h : IsM H v) : IsM H' v := by
  obtain ⟨t, u, k, p, e, h1, h2, h3⟩ := h
  exact ⟨t, u, k, p, e, s _ _ h1, s _ _ h2, h3⟩
/-- a space at x: its leads' dict at ld, its put ones at po; all products L, the leads S, at most c puts -/
def SpaceAt (C : Addr) (H : Hp) (x ld po : Addr) (L : List (List Nat)) (S : List (Nat × Nat)) (c : Nat) : Prop :=
  ∃ (dx pl pd : Addr) (xs ms : List V) (kl : List (Key × V)), H x = some (.ins C dx (sf pl pd ld po)) ∧ H pl = some (.lst xs) ∧ pl ≠ po ∧ Paired (IsP H) xs L ∧ H pd = some (.dT (pks2 0 L)) ∧ pd ≠ ld ∧ H ld = some (.dK kl) ∧ LD H kl S ∧ kl.length ≤ c ∧
    H po = some (.lst ms) ∧ (∀ m ∈ ms, IsM H m) ∧ ms.length ≤ c
theorem SpaceAt.mono {C : Addr} {H H' : Hp} (s : Same H H') {x ld po : Addr} {L : List (List Nat)} {S : List (Nat × Nat)} {c : Nat} (h : SpaceAt C H x ld po L S c) : SpaceAt C H' x ld po L S c := by
  obtain ⟨dx, pl, pd, xs, ms, kl, h1, h2, h3, h4, h5, h6, h7, h8, h9, h10, h11, h12⟩ := h
  exact ⟨dx, pl, pd, xs, ms, kl, s _ _ h1, s _ _ h2, h3, Prs.mono (Tups.of s) h4, s _ _ h5, h6, s _ _ h7, h8.mono (Tups.of s), h9, s _ _ h10, fun m hm => (h11 m hm).mono (Tups.of s), h12⟩
def SameBut (a b : Addr) (H H' : Hp) : Prop := ∀ c o, H c = some o → c ≠ a → c ≠ b → H' c = some o
end Rz
-- part W7
set_option Elab.async false
set_option linter.all false
set_option maxRecDepth 100000
set_option maxHeartbeats 4000000
namespace Rz
open PySem L2
section
variable {P : Program} {w : World} {K : PySem.W.Frag} {mg : Str → Option Value} {base : Heap}
/-! ### Space.__init__ -/
def spInit (C : Addr) : Sp := fun vs H Q _ => ∃ (x dx pl : Addr) (xs : List V) (L : List (List Nat)), vs = [.ref x, .ref pl] ∧ H x = some (.ins C dx []) ∧ H pl = some (.lst xs) ∧ Paired (IsP H) xs L ∧ L.Nodup ∧ L.length ≤ 10000 ∧
  ∀ (H' : Hp) (ld po : Addr), SpaceAt C H' x ld po L [] 0 → (∀ b o, H b = some o → b ≠ x → H' b = some o) → H ld = none → H po = none → Q .non H'
theorem scInit : FnScope ["self", "products", "place", "product"] ["self", "products"] (defScope sInit) := ⟨rfl, rfl, rfl, by decide +kernel, rfl, by decide +kernel, by decide +kernel⟩
theorem ok_init {f C : Addr} {fd : FuncData} (F : Fun K "__init__" "Space.__init__" sInit f fd) (T : Bt mg) (ST : SpT K mg C) : FnOk P w K mg base CX0 1 f fd ["self", "products"] (spInit C) := by
  refine F.ok scInit (fun vs H Q E h => ?_) (fun cdv A outer s H vs Q E hr h => ?_)
  · obtain ⟨x, dx, pl, xs, L, rfl, _⟩ := h
    rfl
  · obtain ⟨x, dx, pl, xs, L, rfl, hx, hpl, hps, hnd, hz, k⟩ := h
    have hu := hu_of hr
    have hbig := sizeLine_big
    have hlen : xs.length = L.length := hps.length
    refine ⟨_, pss_cons (ps_fld (pv 0) (pv 1) rfl) (pss_cons (ps_fld (pv 0) pe_dnewT rfl)
      (pss_cons (ps_for PassesOwn.never rfl (pi_enum (by rfl) T.enumerate (pa_cons (pv 1) pa_nil)) (pg_tup rfl (pgs_cons (pg_name (i := 2) scInit.nd rfl (.inl rfl)) (pgs_cons (pg_name (i := 3) scInit.nd rfl (.inl rfl)) pgs_nil)))
        (pss_one (ps_asg (pv 2) (pg_sub (pe_fld (pv 0) rfl) (pv 3) (set_dict hu)))))
      (pss_cons (ps_fld (pv 0) pe_dnewK rfl) (pss_one (ps_fld (pv 0) (pe_lst pa_nil) rfl))))), ?_⟩
    have npx : pl ≠ x := ne_of hpl hx (by intro z; cases z)
    refine ⟨_, rfl, _, rfl, x, C, dx, _, rfl, hx, ST.cl, ST.nPr, (by show 0 < 1000; decide), fun pd hpd => ?_⟩
    have npd : pd ≠ x := fun z => by
      rw [z, upd_same] at hpd
      cases hpd
    have hpd0 : H pd = none := by rw [upd_ne npd] at hpd; exact hpd
    have l1 := length_putF "products" (V.ref pl) []
    have l2 := length_putF "places" (V.ref pd) (putF "products" (V.ref pl) [])
    have l3 : ∀ ld : Addr, _ := fun ld => length_putF "leads" (V.ref ld) (putF "places" (V.ref pd) (putF "products" (V.ref pl) []))
    rw [List.length_nil] at l1
    refine ⟨_, rfl, x, C, dx, _, rfl, Eq.trans (upd_ne npd.symm) upd_same, ST.cl, ST.nPl, (by omega), ?_⟩
    have npld : pl ≠ pd := ne_of_none hpl hpd0
    refine ⟨_, rfl, pl, xs, rfl, SqL.of (by rw [upd_ne npx, upd_ne npld, upd_ne npx]; exact hpl), for_it (walk_enum (K := K) (a := pl) (xs := xs)) (fun i σ H' => ∃ a b, σ = [some (.ref x), some (.ref pl), a, b] ∧ H' x = some (.ins C dx (putF "places" (.ref pd) (putF "products" (.ref pl) []))) ∧
        (∀ b o, H b = some o → b ≠ x → H' b = some o) ∧ H' pd = some (.dT (pks2 0 (L.take i))))
      ⟨none, none, rfl, upd_same, fun b o e nb => ?_, ?_⟩ (fun i σ H' _ ⟨_, _, _, _, s, _⟩ => SqL.of (s _ _ hpl npx)) ?_ ?_⟩
    · rw [upd_ne nb, upd_ne (ne_of_none e hpd0), upd_ne nb]
      exact e
    · rw [upd_ne npd, upd_same]
      rfl
    · rintro i z σ H1 H2 hi ⟨a, b, rfl, h1, h2, h3⟩ ⟨T', y1, y2, rfl, hT, rfl, e1, e2⟩
      obtain rfl : V.int (i : Nat) = y1 := Option.some.inj e1
      obtain ⟨p, hp, tq, rfl, hq⟩ := Pd.get hps e2
      have sT := Same.fresh (o := .tup [V.int (i : Nat), .ref tq]) hT
      refine ⟨T', _, rfl, SqT.of upd_same, rfl, _, _, rfl, _, _, rfl, rfl, ?_⟩
      have hqx : tq ≠ x := ne_of hq hx (by intro z; cases z)
      have hq1 : (upd H1 T' (.tup [V.int (i : Nat), .ref tq])) tq = some (.tup ((pks p).map kV)) := by rw [pks_kV]; exact sT _ _ (h2 _ _ hq hqx)
      have hlt := (List.getElem?_eq_some_iff.mp hp).1
      have hnone : valV (pks2 0 (L.take i)) (pks p) = none := pks2_none 0 fun hm => by
        obtain ⟨j, hj, e⟩ := List.mem_iff_getElem.mp hm
        rw [List.length_take] at hj
        rw [List.getElem_take] at e
        obtain ⟨hp1, hp2⟩ := List.getElem?_eq_some_iff.mp hp
        have := (List.getElem_inj hnd).mp (e.trans hp2.symm)
        omega
      refine ⟨_, rfl, _, rfl, x, C, dx, _, _, rfl, sT _ _ h1, ST.cl, ST.nPl, (by rw [lookup_putF, if_pos rfl]), _, rfl, pd, _, rfl, DPut.t (sT _ _ h3) hq1 (by rw [pks2_len, List.length_take]; omega), ?_⟩
      refine ⟨_, _, rfl, ?_, fun b o e nb => ?_, ?_⟩
      · rw [upd_ne npd.symm]
        exact sT _ _ h1
      · rw [upd_ne (ne_of_none e hpd0)]
        exact sT _ _ (h2 _ _ e nb)
      · rw [upd_same, putK_new _ hnone, take_snoc hp, pks2_snoc, List.length_take]
        have : 0 + min i L.length = i := by omega
        rw [this]
    · rintro σ H1 ⟨a, b, rfl, h1, h2, h3⟩
      rw [List.take_of_length_le (by omega)] at h3
      intro ld hld
      have nld : ld ≠ x := fun z => by rw [z, h1] at hld; cases hld
      have hld0 : H ld = none := by
        cases e : H ld with
        | none => rfl
        | some o => rw [h2 _ _ e nld] at hld; cases hld
      have npl2 : pd ≠ ld := ne_of_none h3 hld
      refine ⟨_, rfl, x, C, dx, _, rfl, Eq.trans (upd_ne nld.symm) h1, ST.cl, ST.nLe, (by omega), ?_⟩
      refine ⟨Nat.zero_le _, fun po hpo => ?_⟩
      have npo : po ≠ x := fun z => by rw [z, upd_same] at hpo; cases hpo
      have hpo1 : (upd H1 ld (.dK [])) po = none := by rw [upd_ne npo] at hpo; exact hpo
      have npl : po ≠ ld := fun z => by rw [z, upd_same] at hpo1; cases hpo1
      have hpo2 : H1 po = none := by rw [upd_ne npl] at hpo1; exact hpo1
      have hpo0 : H po = none := by
        cases e : H po with
        | none => rfl
        | some o => rw [h2 _ _ e npo] at hpo2; cases hpo2
      have l4 := l3 ld
      refine ⟨_, rfl, x, C, dx, _, rfl, Eq.trans (upd_ne npo.symm) upd_same, ST.cl, ST.nPu, (by omega), ?_⟩
      have keep : ∀ b o, H b = some o → b ≠ x → (upd (upd (upd (upd H1 ld (.dK [])) x (.ins C dx (putF "leads" (.ref ld) (putF "places" (.ref pd) (putF "products" (.ref pl) []))))) po (.lst [])) x (.ins C dx (sf pl pd ld po))) b = some o := fun b o e nb => by
        rw [upd_ne nb, upd_ne (ne_of_none e hpo0), upd_ne nb, upd_ne (ne_of_none e hld0)]
        exact h2 _ _ e nb
      refine k _ ld po ⟨dx, pl, pd, xs, [], [], upd_same, keep _ _ hpl npx, ne_of_none hpl hpo0, Paired.mapP hps fun v p hv => ?_, ?_, npl2, ?_, LD.nil _, Nat.zero_le _, ?_, fun m hm => absurd hm (by simp), Nat.zero_le _⟩ keep hld0 hpo0
      · obtain ⟨t, e, ht⟩ := hv
        exact ⟨t, e, keep _ _ ht (ne_of ht hx (by intro z; cases z))⟩
      · rw [upd_ne npd, upd_ne (ne_of_none h3 hpo2), upd_ne npd, upd_ne npl2]
        exact h3
      · rw [upd_ne nld, upd_ne npl.symm, upd_ne nld, upd_same]
      · rw [upd_ne npo, upd_same]
/-! ### Space.number_of -/
def spNumberOf (C : Addr) : Sp := fun vs H Q _ => ∃ (x ld po : Addr) (y : V) (L qs : List (List Nat)) (S : List (Nat × Nat)) (c : Nat), vs = [.ref x, y] ∧ SpaceAt C H x ld po L S c ∧ IsS H y qs ∧ (∀ q ∈ qs, q ∈ L) ∧ qs.Nodup ∧ qs.length ≤ 1000000 ∧ L.length ≤ 10000 ∧
  ∀ H', Same H H' → Q (.int (numX L qs : Nat)) H'
theorem scNumberOf : FnScope ["self", "some", "product"] ["self", "some"] (defScope sNumberOf) := ⟨rfl, rfl, rfl, by decide +kernel, rfl, by decide +kernel, by decide +kernel⟩
theorem prs_intI : ∀ {xs : List V} {bs : List Int}, Paired (fun v (b : Int) => v = V.int b) xs bs → xs = bs.map V.int
  | _, _, .nil => rfl
  | _, _, .cons r t => by rw [prs_intI t, r]; rfl
theorem sum_cast : ∀ (l : List Nat), (l.map fun n => ((n : Nat) : Int)).sum = ((l.sum : Nat) : Int)
  | [] => rfl
  | a :: l => by
    rw [List.map_cons, List.sum_cons, List.sum_cons, sum_cast l]
    omega
theorem ok_numberOf {f C : Addr} {fd : FuncData} (F : Fun K "number_of" "Space.number_of" sNumberOf f fd) (T : Bt mg) (ST : SpT K mg C) : FnOk P w K mg base CX0 1 f fd ["self", "some"] (spNumberOf C) := by
  refine F.ok scNumberOf (fun vs H Q E h => ?_) (fun cdv A outer s H vs Q E hr h => ?_)
  · obtain ⟨x, ld, po, y, L, qs, S, c, rfl, _⟩ := h
    rfl
  · obtain ⟨x, ld, po, y, L, qs, S, c, rfl, hS, ⟨t, xs, rfl, ht, hqs⟩, hm, hnd, hz, hL, k⟩ := h
    have hu := hu_of hr
    have hbig := sizeLine_big
    have hlen : xs.length = qs.length := hqs.length
    obtain ⟨dx, pl, pd, _, _, _, h1, _, _, _, h5, _⟩ := hS
    refine ⟨_, pss_one (ps_ret (pe_callB (cr_sumK K rfl rfl) (by rfl) T.sum bb_sum (pa_cons
      (pe_lc (own := [("product", 2)]) (g := gName 2) (tt := tYes) rfl scNumberOf.nd (pi_tup (pv 1)) (blkOk_by (by kernel_rfl)) (fun _ _ _ _ _ => pg_name (i := 2) scNumberOf.nd rfl (.inl rfl)) (fun _ _ _ _ _ => pts_nil)
        (fun _ _ _ _ _ => by exact pe_op op_oneShl pe_int (pe_dget hu (pe_fldK K rfl (pv 0) rfl) (pv 2) (fun _ _ => rfl)))) pa_nil))), ?_⟩
    refine ⟨_, rfl, t, rfl, ⟨_, SqT.of ht⟩, fun D hD => lc_data (walk_tup (K := K) (a := t) (xs := xs)) qs (fun _ => true) (fun p => ((2 ^ plc L p : Nat) : Int)) (fun _ v (b : Int) => v = V.int b) hlen.symm (by omega) hD (fun _ _ _ _ _ h => h) (fun H' s' => SqT.of (s' _ _ ht)) ?_ ?_⟩
    · rintro i v Ho H1 p hp s1 ⟨rfl, hx⟩ Z N hZ hN
      obtain ⟨p', hp', tq, rfl, hq⟩ := Pd.get hqs hx
      rw [hp] at hp'
      cases hp'
      have hpL := hm p (List.mem_of_getElem? hp)
      have hq1 : H1 tq = some (.tup ((pks p).map kV)) := by rw [pks_kV]; exact s1 _ _ hq
      have hpl : plc L p < L.length := List.idxOf_lt_length_of_mem hpL
      have hv : valV (pks2 0 L) (pks p) = some (V.int ((plc L p : Nat) : Int)) := by rw [pks2_at 0 hpL, Nat.zero_add]
      refine ⟨rfl, _, rfl, x, C, dx, _, _, rfl, s1 _ _ h1, ST.cl, ST.nPl, sf_places _ _ _ _, _, rfl, pd, _, rfl, .inr ⟨_, _, tq, .inl (s1 _ _ h5), rfl, hq1, hv.symm⟩, plc L p, rfl, rfl, (by omega), ?_⟩
      refine hZ _ _ rfl (Same.refl _) ?_
      show V.int (2 ^ plc L p) = V.int ((2 ^ plc L p : Nat) : Int)
      rw [Int.natCast_pow]
      rfl
    · intro H1 ys s1 hy hys
      rw [lcw] at hys
      have e := prs_intI hys
      subst e
      refine ⟨D, _, rfl, SqL.of hy, ?_⟩
      have e2 : (qs.map fun p => ((2 ^ plc L p : Nat) : Int)).sum = ((numX L qs : Nat) : Int) := by
        rw [← sum_numX hnd hm, ← sum_cast, List.map_map]
        rfl
      rw [e2]
      exact k _ s1
end
end Rz
-- part W8
set_option Elab.async false
set_option linter.all false
set_option maxRecDepth 100000
set_option maxHeartbeats 4000000
namespace Rz
open PySem L2
section
variable {P : Program} {w : World} {K : PySem.W.Frag} {mg : Str → Option Value} {base : Heap}
/-! ### Space.left_of -/
def spLeftOf (C : Addr) : Sp := fun vs H Q _ => ∃ (x ld po : Addr) (n : Nat) (L : List (List Nat)) (S : List (Nat × Nat)) (c : Nat), vs = [.ref x, .int (n : Nat)] ∧ SpaceAt C H x ld po L S c ∧
  ∀ H' t m, Same H H' → H' t = some (.tup [.int (leftM S n : Nat), .int m]) → Q (.ref t) H'
theorem scLeftOf : FnScope ["self", "number", "made", "lead"] ["self", "number"] (defScope sLeftOf) := ⟨rfl, rfl, rfl, by decide +kernel, rfl, by decide +kernel, by decide +kernel⟩
theorem leftM_snoc (S : List (Nat × Nat)) (lv : Nat × Nat) (n : Nat) : leftM (S ++ [lv]) n = stepL (leftM S n) lv := by
  unfold leftM
  rw [List.foldl_append]
  rfl
theorem ok_leftOf {f C : Addr} {fd : FuncData} (F : Fun K "left_of" "Space.left_of" sLeftOf f fd) (T : Bt mg) (ST : SpT K mg C) : FnOk P w K mg base CX0 1 f fd ["self", "number"] (spLeftOf C) := by
  refine F.ok scLeftOf (fun vs H Q E h => ?_) (fun cdv A outer s H vs Q E hr h => ?_)
  · obtain ⟨x, ld, po, n, L, S, c, rfl, _⟩ := h
    rfl
  · obtain ⟨x, ld, po, n, L, S, c, rfl, hS, k⟩ := h
    have hu := hu_of hr
    have hbig := sizeLine_big
    obtain ⟨dx, pl, pd, _, _, kl, h1, _, _, _, _, _, h7, h8, _⟩ := hS
    obtain ⟨ks, hk1, hk2⟩ := h8.sorted
    refine ⟨_, pss_cons (ps_set (i := 2) scLeftOf.nd rfl (.inl rfl) pe_int)
      (pss_cons (ps_for PassesOwn.never rfl (pi_list (pe_callBK (cr_sortDR rfl) (by rfl) T.sorted bb_sorted (pa_cons (pe_fld (pv 0) rfl) pa_nil) (pk_cons pe_bl pk_nil))) (pg_name (i := 3) scLeftOf.nd rfl (.inl rfl))
        (pss_one (ps_if (pt_cmpR op_eq (pe_op op_and (pe_op op_shrN (pv 1) (pv 3)) pe_int) pe_int (nomark _))
          (pss_cons (ps_set (i := 1) scLeftOf.nd rfl (.inl rfl) (pe_op op_xor (pv 1) (pe_ix ix_tup (pe_dget hu (pe_fld (pv 0) rfl) (pv 3) (fun _ _ => rfl)) pe_int (fun _ _ => rfl))))
            (pss_one (ps_set (i := 2) scLeftOf.nd rfl (.inl rfl) (pe_op op_xor (pv 2) (pe_ix ix_tup (pe_dget hu (pe_fld (pv 0) rfl) (pv 3) (fun _ _ => rfl)) pe_int (fun _ _ => rfl))))))
          pss_nil)))
      (pss_one (ps_ret (pe_tup (pa_cons (pv 1) (pa_cons (pv 2) pa_nil)))))), ?_⟩
    refine ⟨_, rfl, x, C, dx, _, _, rfl, h1, ST.cl, ST.nLe, sf_leads _ _ _ _, ?_⟩
    refine ⟨ld, kl, ks, rfl, rfl, .inl h7, hk1, fun ns q hp hs hq => ?_⟩
    have en := hk2 ns hp hs
    have sq := Same.fresh (o := .lst (ns.map V.int)) hq
    refine ⟨q, rfl, ⟨_, SqL.of upd_same⟩, for_it (walk_list (K := K) (a := q) (xs := ns.map V.int)) (fun i σ H' => H' = upd H q (.lst (ns.map V.int)) ∧ ∃ (m : Int) (b : Option V), σ = [some (.ref x), some (.int (leftM (S.take i) n : Nat)), some (.int m), b])
      ⟨rfl, 0, none, rfl⟩ (fun i σ H' _ h => by rw [h.1]; exact SqL.of upd_same) ?_ ?_⟩
    · rintro i v σ Ho H1 hi ⟨rfl, m, b, rfl⟩ ⟨rfl, hv⟩
      rw [en, List.map_map, List.getElem?_map] at hv
      obtain ⟨lv, hlv, ev⟩ := Option.map_eq_some_iff.mp hv
      obtain rfl : V.int ((lv.1 : Nat) : Int) = v := ev
      obtain ⟨t, m2, g1, g2⟩ := h8.at_ lv (List.mem_of_getElem? hlv)
      have hx := sq _ _ h1
      have hl := sq _ _ h7
      have ht := sq _ _ g2
      have eS : leftM (S.take (i + 1)) n = stepL (leftM (S.take i) n) lv := by rw [take_snoc hlv, leftM_snoc]
      refine ⟨_, rfl, _, rfl, _, lv.1, rfl, rfl, _, _, rfl, rfl, rfl, _, rfl, ?_⟩
      rw [bit_eq]
      refine ite2 (fun hb => ?_) (fun hb => ?_)
      · refine ⟨_, rfl, _, rfl, x, C, dx, _, _, rfl, hx, ST.cl, ST.nLe, sf_leads _ _ _ _, _, rfl, ld, _, rfl, .inl ⟨kl, _, .inl hl, rfl, g1.symm⟩, t, _, _, _, rfl, rfl, SqT.of ht, rfl, _, _, rfl, rfl, ?_⟩
        refine ⟨_, rfl, _, rfl, x, C, dx, _, _, rfl, hx, ST.cl, ST.nLe, sf_leads _ _ _ _, _, rfl, ld, _, rfl, .inl ⟨kl, _, .inl hl, rfl, g1.symm⟩, t, _, _, _, rfl, rfl, SqT.of ht, rfl, _, _, rfl, rfl, ?_⟩
        refine ⟨rfl, Builtin.bitXor m m2, some (V.int (lv.1 : Nat)), ?_⟩
        rw [eS]
        have : stepL (leftM (S.take i) n) lv = leftM (S.take i) n ^^^ lv.2 := by
          unfold stepL
          rw [if_pos hb]
        rw [this, ← bxor_eq]
        rfl
      · refine ⟨rfl, m, some (V.int (lv.1 : Nat)), ?_⟩
        rw [eS]
        have : stepL (leftM (S.take i) n) lv = leftM (S.take i) n := by
          unfold stepL
          rw [if_neg hb]
        rw [this]
        rfl
    · rintro σ H1 ⟨rfl, m, b, rfl⟩
      rw [List.take_of_length_le (by rw [List.length_map, en, List.length_map]; exact Nat.le_refl _)]
      refine ⟨_, rfl, _, rfl, (by show 2 ≤ sizeLine; omega), fun t ht => ?_⟩
      exact k _ t m (sq.trans (Same.fresh ht)) upd_same
/-! ### Space.put -/
def spPut (C : Addr) : Sp := fun vs H Q _ => ∃ (x ld po : Addr) (mk y : V) (L qs : List (List Nat)) (S : List (Nat × Nat)) (c : Nat), vs = [.ref x, mk, y] ∧ SpaceAt C H x ld po L S c ∧ IsM H mk ∧ IsS H y qs ∧ (∀ q ∈ qs, q ∈ L) ∧ qs.Nodup ∧ qs.length ≤ 1000000 ∧ L.length ≤ 10000 ∧ c ≤ 1000000 ∧
  ∀ H', SpaceAt C H' x ld po L (putM S (numX L qs)) (c + 1) → SameBut ld po H H' → Q .non H'
theorem scPut : FnScope ["self", "mark", "some", "number", "made"] ["self", "mark", "some"] (defScope sPut) := ⟨rfl, rfl, rfl, by decide +kernel, rfl, by decide +kernel, by decide +kernel⟩
theorem bits_log (r : Nat) (h : 0 < r) : ((Builtin.Int.intBits (r : Int) : Nat) : Int) - 1 = ((r.log2 : Nat) : Int) := by
  unfold Builtin.Int.intBits
  have h1 : ((r : Int) == 0) = false := by
    have : ¬ (r : Int) = 0 := by omega
    simpa using this
  rw [h1]
  show (((r : Int).natAbs.log2 + 1 : Nat) : Int) - 1 = _
  rw [Int.natAbs_natCast]
  omega
theorem ok_put {f fN fL C : Addr} {fd fdN fdL : FuncData} (F : Fun K "put" "Space.put" sPut f fd) (T : Bt mg) (ST : SpT K mg C) (mN : Meth K C "number_of" fN) (GN : FnOk P w K mg base CX0 1 fN fdN ["self", "some"] (spNumberOf C)) (bN : Binds K fdN ["self", "some"] [])
    (mL : Meth K C "left_of" fL) (GL : FnOk P w K mg base CX0 1 fL fdL ["self", "number"] (spLeftOf C)) (bL : Binds K fdL ["self", "number"] []) : FnOk P w K mg base CX0 2 f fd ["self", "mark", "some"] (spPut C) := by
  refine F.ok scPut (fun vs H Q E h => ?_) (fun cdv A outer s H vs Q E hr h => ?_)
  · obtain ⟨x, ld, po, mk, y, L, qs, S, c, rfl, _⟩ := h
    rfl
  · obtain ⟨x, ld, po, mk, y, L, qs, S, c, rfl, hS, hmk, hy, hm, hnd, hz, hL, hc, k⟩ := h
    have hu := hu_of hr
    have hbig := sizeLine_big
    refine ⟨_, pss_cons (ps_asg (pe_meth (pv 0) ST.cl mL GL hr bL .nil pass0 (pa_cons (pe_meth (pv 0) ST.cl mN GN hr bN .nil pass0 (pa_cons (pv 2) pa_nil)) pa_nil))
        (pg_tup rfl (pgs_cons (pg_name (i := 3) scPut.nd rfl (.inl rfl)) (pgs_cons (pg_name (i := 4) scPut.nd rfl (.inl rfl)) pgs_nil))))
      (pss_one (ps_if (pt_cmpR op_gt (pv 3) pe_int (nomark _))
        (pss_cons (ps_set (i := 4) scPut.nd rfl (.inl rfl) (pe_op op_xor (pv 4) (pe_op op_oneShl pe_int (pe_callB call_len_seq (by rfl) T.len bb_len (pa_cons (pe_fld (pv 0) rfl) pa_nil)))))
        (pss_cons (ps_expr (pe_bm PySem.F.plainAttrs_list PySem.F.slot_list_append PySem.F.type_list_append mt_append (pe_fld (pv 0) rfl) (pa_cons (pv 1) pa_nil)))
        (pss_one (ps_asg (pe_tup (pa_cons (pv 3) (pa_cons (pv 4) pa_nil))) (pg_sub (pe_fld (pv 0) rfl) (pe_op op_sub (pe_bits (pv 3)) pe_int) (set_dict hu))))))
        pss_nil)), ?_⟩
    obtain ⟨dx, pl, pd, xs, ms, kl, h1, h2, h3, h4, h5, h6, h7, h8, h9, h10, h11, h12⟩ := id hS
    have noN : (sf pl pd ld po).lookup ("number_of" : Str) = none := sf_no _ _ _ _ (by decide +kernel) (by decide +kernel) (by decide +kernel) (by decide +kernel)
    have noL : (sf pl pd ld po).lookup ("left_of" : Str) = none := sf_no _ _ _ _ (by decide +kernel) (by decide +kernel) (by decide +kernel) (by decide +kernel)
    refine ⟨_, rfl, x, dx, _, rfl, h1, noL, _, rfl, x, dx, _, rfl, h1, noN, _, rfl, x, ld, po, y, L, qs, S, c, rfl, hS, hy, hm, hnd, hz, hL, fun H1 s1 => ?_⟩
    refine ⟨x, ld, po, _, L, S, c, rfl, hS.mono s1, fun H2 t m s2 ht => ?_⟩
    have s12 : Same H H2 := s1.trans s2
    refine ⟨t, _, rfl, SqT.of ht, rfl, _, _, rfl, _, _, rfl, rfl, ?_⟩
    refine ⟨_, rfl, _, _, rfl, rfl, _, rfl, ?_⟩
    have eput : putM S (numX L qs) = putR S (leftM S (numX L qs)) := rfl
    rw [eput] at k
    generalize leftM S (numX L qs) = r at *
    by_cases hr0 : r = 0
    · subst hr0
      rw [decide_eq_false (by decide)]
      refine iteF ?_
      refine k _ ?_ fun b o e _ _ => s12 _ _ e
      obtain ⟨dx, pl, pd, xs, ms, kl, h1, h2, h3, h4, h5, h6, h7, h8, h9, h10, h11, h12⟩ := hS.mono s12
      exact ⟨dx, pl, pd, xs, ms, kl, h1, h2, h3, h4, h5, h6, h7, h8, by omega, h10, h11, by omega⟩
    · rw [decide_eq_true (by omega)]
      refine iteT ?_
      obtain ⟨g1, g2, g4, g5, g7, g8, g10, g11⟩ : H2 x = _ ∧ H2 pl = _ ∧ Paired (IsP H2) xs L ∧ H2 pd = _ ∧ H2 ld = _ ∧ LD H2 kl S ∧ H2 po = _ ∧ (∀ m ∈ ms, IsM H2 m) :=
        ⟨s12 _ _ h1, s12 _ _ h2, Prs.mono (Tups.of s12) h4, s12 _ _ h5, s12 _ _ h7, h8.mono (Tups.of s12), s12 _ _ h10, fun m hm => (h11 m hm).mono (Tups.of s12)⟩
      -- made = made ^ 1 << len(self.put_ones)
      refine ⟨_, rfl, _, rfl, x, C, dx, _, _, rfl, g1, ST.cl, ST.nPu, sf_puts _ _ _ _, po, ms, rfl, .inl (SqL.of g10), ms.length, rfl, rfl, (by omega), _, _, rfl, rfl, ?_⟩
      -- self.put_ones.append(mark)
      have npx : po ≠ x := ne_of g10 g1 (by intro z; cases z)
      have npl : po ≠ ld := ne_of g10 g7 (by intro z; cases z)
      have npd : po ≠ pd := ne_of g10 g5 (by intro z; cases z)
      have nlx : ld ≠ x := ne_of g7 g1 (by intro z; cases z)
      have nlp : ld ≠ pl := ne_of g7 g2 (by intro z; cases z)
      refine ⟨_, rfl, x, C, dx, _, _, rfl, g1, ST.cl, ST.nPu, sf_puts _ _ _ _, .inl ⟨rfl, _, SqL.of g10⟩, _, rfl, po, _, _, rfl, rfl, g10, (by omega), ?_⟩
      -- self.leads[number.bit_length() - 1] = (number, made)
      have t3 : Tups H2 (upd H2 po (.lst (ms ++ [mk]))) := Tups.put g10 trivial
      refine ⟨_, rfl, _, rfl, (by show 2 ≤ sizeLine; omega), fun u hu' => ?_⟩
      have s4 := Same.fresh (o := .tup [V.int (r : Nat), V.int (Builtin.bitXor m (2 ^ ms.length))]) hu'
      refine ⟨_, rfl, x, C, dx, _, _, rfl, s4 _ _ (by rw [upd_ne npx.symm]; exact g1), ST.cl, ST.nLe, sf_leads _ _ _ _, ?_⟩
      have g7' : (upd H2 po (.lst (ms ++ [mk]))) ld = some (.dK kl) := by rw [upd_ne npl.symm]; exact g7
      refine ⟨_, rfl, _, rfl, _, _, rfl, rfl, ld, _, rfl, (by show DPut _ _ (V.int (((Builtin.Int.intBits (r : Int) : Nat) : Int) - 1)) _ _; rw [bits_log r (by omega)]; exact DPut.k (k := ki r.log2) (s4 _ _ g7') (by omega)), ?_⟩
      have t5 : Tups (upd (upd H2 po (.lst (ms ++ [mk]))) u (.tup [V.int (r : Nat), V.int (Builtin.bitXor m (2 ^ ms.length))])) (upd (upd (upd H2 po (.lst (ms ++ [mk]))) u (.tup [V.int (r : Nat), V.int (Builtin.bitXor m (2 ^ ms.length))])) ld (.dK (putK kl (ki r.log2) (.ref u)))) := Tups.put (s4 _ _ g7') trivial
      have tt := (t3.trans (Tups.of s4)).trans t5
      have keep : ∀ b o, H2 b = some o → b ≠ ld → b ≠ po → (upd (upd (upd H2 po (.lst (ms ++ [mk]))) u (.tup [V.int (r : Nat), V.int (Builtin.bitXor m (2 ^ ms.length))])) ld (.dK (putK kl (ki r.log2) (.ref u)))) b = some o := fun b o e n1 n2 => by
        rw [upd_ne n1]
        refine s4 _ _ ?_
        rw [upd_ne n2]
        exact e
      have ep : putR S r = insD r.log2 r S := by
        unfold putR
        rw [if_neg hr0]
      rw [ep] at k
      have hlk := length_putK kl (ki r.log2) (V.ref u)
      refine k _ ⟨dx, pl, pd, xs, ms ++ [mk], putK kl (ki r.log2) (.ref u), keep _ _ g1 nlx.symm npx.symm, keep _ _ g2 nlp.symm h3, h3, Prs.mono tt g4, keep _ _ g5 h6 npd.symm, h6, upd_same, ?_, by omega, ?_, fun m' hm' => ?_, ?_⟩ fun b o e n1 n2 => keep _ _ (s12 _ _ e) n1 n2
      · exact (g8.mono tt).put (t5 _ _ upd_same)
      · rw [upd_ne npl]
        exact s4 _ _ upd_same
      · rcases List.mem_append.mp hm' with z | z
        · exact (g11 m' z).mono tt
        · rw [List.mem_singleton.mp z]
          exact hmk.mono ((Tups.of s12).trans tt)
      · rw [List.length_append, List.length_singleton]
        omega
end
end Rz
-- part W9
set_option Elab.async false
set_option linter.all false
set_option maxRecDepth 100000
set_option maxHeartbeats 4000000
namespace Rz
open PySem L2
section
variable {P : Program} {w : World} {K : PySem.W.Frag} {mg : Str → Option Value} {base : Heap}
/-! ### Space.made_of -/
def spMadeOf (C : Addr) : Sp := fun vs H Q _ => ∃ (x ld po : Addr) (y : V) (L qs : List (List Nat)) (S : List (Nat × Nat)) (c : Nat), vs = [.ref x, y] ∧ SpaceAt C H x ld po L S c ∧ IsS H y qs ∧ (∀ q ∈ qs, q ∈ L) ∧ qs.Nodup ∧ qs.length ≤ 1000000 ∧ L.length ≤ 10000 ∧ c ≤ 1000000 ∧
  leftM S (numX L qs) = 0 ∧ ∀ H' D ys, Same H H' → H' D = some (.lst ys) → (∀ y ∈ ys, IsM H' y) → ys.length ≤ 1000000 → Q (.ref D) H'
theorem scMadeOf : FnScope ["self", "some", "number", "made", "place", "mark"] ["self", "some"] (defScope sMadeOf) := ⟨rfl, rfl, rfl, by decide +kernel, rfl, by decide +kernel, by decide +kernel⟩
theorem prs_eq : ∀ {xs ys : List V}, Paired (fun v (b : V) => v = b) xs ys → xs = ys
  | _, _, .nil => rfl
  | _, _, .cons r t => by rw [prs_eq t, r]
theorem ok_madeOf {f fN fL C : Addr} {fd fdN fdL : FuncData} (F : Fun K "made_of" "Space.made_of" sMadeOf f fd) (T : Bt mg) (ST : SpT K mg C) (mN : Meth K C "number_of" fN) (GN : FnOk P w K mg base CX0 1 fN fdN ["self", "some"] (spNumberOf C)) (bN : Binds K fdN ["self", "some"] [])
    (mL : Meth K C "left_of" fL) (GL : FnOk P w K mg base CX0 1 fL fdL ["self", "number"] (spLeftOf C)) (bL : Binds K fdL ["self", "number"] []) : FnOk P w K mg base CX0 2 f fd ["self", "some"] (spMadeOf C) := by
  refine F.ok scMadeOf (fun vs H Q E h => ?_) (fun cdv A outer s H vs Q E hr h => ?_)
  · obtain ⟨x, ld, po, y, L, qs, S, c, rfl, _⟩ := h
    rfl
  · obtain ⟨x, ld, po, y, L, qs, S, c, rfl, hS, hy, hm, hnd, hz, hL, hc, hzero, k⟩ := h
    have hbig := sizeLine_big
    refine ⟨_, pss_cons (ps_asg (pe_meth (pv 0) ST.cl mL GL hr bL .nil pass0 (pa_cons (pe_meth (pv 0) ST.cl mN GN hr bN .nil pass0 (pa_cons (pv 1) pa_nil)) pa_nil))
        (pg_tup rfl (pgs_cons (pg_name (i := 2) scMadeOf.nd rfl (.inl rfl)) (pgs_cons (pg_name (i := 3) scMadeOf.nd rfl (.inr rfl)) pgs_nil))))
      (pss_cons (ps_if (pt_cmpR op_gt (pv 2) pe_int (nomark _)) (pss_one (ps_ret pe_non)) pss_nil)
      (pss_one (ps_ret (pe_lc (own := [("place", 4), ("mark", 5)]) rfl scMadeOf.nd (pi_enum (by rfl) T.enumerate (pa_cons (pe_fld (pv 0) rfl) pa_nil)) (blkOk_by (by kernel_rfl))
        (fun _ _ _ _ _ => by exact pg_tupK K rfl (n := 2) rfl (pgs_cons (pg_name (i := 4) scMadeOf.nd rfl (.inl rfl)) (pgs_cons (pg_name (i := 5) scMadeOf.nd rfl (.inl rfl)) pgs_nil)))
        (fun _ _ _ _ _ => by exact pts_one (pt_cmpR op_eq (pe_op op_and (pe_op op_shrN (pv 3) (pv 4)) pe_int) pe_int (nomark _))) (fun _ _ _ _ _ => pv 5))))), ?_⟩
    obtain ⟨dx, pl, pd, xs, ms, kl, h1, h2, h3, h4, h5, h6, h7, h8, h9, h10, h11, h12⟩ := id hS
    have noN : (sf pl pd ld po).lookup ("number_of" : Str) = none := sf_no _ _ _ _ (by decide +kernel) (by decide +kernel) (by decide +kernel) (by decide +kernel)
    have noL : (sf pl pd ld po).lookup ("left_of" : Str) = none := sf_no _ _ _ _ (by decide +kernel) (by decide +kernel) (by decide +kernel) (by decide +kernel)
    refine ⟨_, rfl, x, dx, _, rfl, h1, noL, _, rfl, x, dx, _, rfl, h1, noN, _, rfl, x, ld, po, y, L, qs, S, c, rfl, hS, hy, hm, hnd, hz, hL, fun H1 s1 => ?_⟩
    refine ⟨x, ld, po, _, L, S, c, rfl, hS.mono s1, fun H2 t m s2 ht => ?_⟩
    have s12 : Same H H2 := s1.trans s2
    rw [hzero] at ht
    refine ⟨t, _, rfl, SqT.of ht, rfl, _, _, rfl, _, _, rfl, rfl, ?_⟩
    refine ⟨_, rfl, _, _, rfl, rfl, _, rfl, ?_⟩
    rw [decide_eq_false (by decide)]
    refine iteF ?_
    have g10 := s12 _ _ h10
    refine ⟨_, rfl, x, C, dx, _, _, rfl, s12 _ _ h1, ST.cl, ST.nPu, sf_puts _ _ _ _, po, ms, rfl, SqL.of g10, fun D hD => lc_data (walk_enum (K := K) (a := po) (xs := ms)) (List.range ms.length) (fun i => decide (V.int (Builtin.bitAnd (m / 2 ^ i) 1) = V.int 1)) (fun i => ms.getD i .non) (fun _ v b => v = b) List.length_range (by omega) hD (fun _ _ _ _ _ h => h) (fun H' s' => SqL.of (s' _ _ g10)) ?_ ?_⟩
    · rintro i z H3 H4 j hj s3 ⟨T', y1, y2, rfl, hT, rfl, e1, e2⟩ Z N hZ hN
      have hji : j = i := by
        obtain ⟨q1, q2⟩ := List.getElem?_eq_some_iff.mp hj
        rw [List.getElem_range] at q2
        exact q2.symm
      subst hji
      obtain rfl : V.int (j : Nat) = y1 := Option.some.inj e1
      have sT := Same.fresh (o := .tup [V.int (j : Nat), y2]) hT
      refine ⟨T', _, rfl, SqT.of upd_same, rfl, _, _, rfl, _, _, rfl, rfl, rfl, ?_⟩
      refine ⟨_, rfl, _, rfl, _, j, rfl, rfl, _, _, rfl, rfl, rfl, _, rfl, ?_⟩
      refine ite2 (fun hf => ?_) (fun hf => ?_)
      · refine ⟨_, rfl, hZ _ _ hf sT ?_⟩
        rw [List.getD_eq_getElem?_getD]
        have e2' : ms[j]? = some y2 := e2
        rw [e2']
        rfl
      · exact hN _ (by simpa using hf) sT
    · intro H3 ys s3 hD3 hys
      have e := prs_eq hys
      have s13 : Same H H3 := s12.trans s3
      refine k _ _ _ s13 hD3 (fun v hv => ?_) ?_
      · rw [e] at hv
        obtain ⟨i, hi, rfl⟩ := List.mem_map.mp hv
        have hi2 := List.mem_range.mp (List.mem_filter.mp hi).1
        rw [List.getD_eq_getElem?_getD, List.getElem?_eq_getElem hi2]
        exact (h11 _ (List.getElem_mem hi2)).mono (Tups.of s13)
      · rw [e, List.length_map]
        have := List.length_filter_le (fun i => decide (V.int (Builtin.bitAnd (m / 2 ^ i) 1) = V.int 1)) (List.range ms.length)
        rw [List.length_range] at this
        omega
/-! ### Space.without_lead -/
def spWithoutLead (C : Addr) : Sp := fun vs H Q _ => ∃ (x ld po : Addr) (L : List (List Nat)) (S : List (Nat × Nat)) (c : Nat), vs = [.ref x] ∧ SpaceAt C H x ld po L S c ∧ L.length ≤ 10000 ∧
  ∀ H' D ys, Same H H' → H' D = some (.lst ys) → ys.length = ((List.range L.length).filter fun i => !S.any fun lv => lv.1 == i).length → Q (.ref D) H'
theorem scWithoutLead : FnScope ["self", "place", "product"] ["self"] (defScope sWithoutLead) := ⟨rfl, rfl, rfl, by decide +kernel, rfl, by decide +kernel, by decide +kernel⟩
theorem ok_withoutLead {f C : Addr} {fd : FuncData} (F : Fun K "without_lead" "Space.without_lead" sWithoutLead f fd) (T : Bt mg) (ST : SpT K mg C) : FnOk P w K mg base CX0 1 f fd ["self"] (spWithoutLead C) := by
  refine F.ok scWithoutLead (fun vs H Q E h => ?_) (fun cdv A outer s H vs Q E hr h => ?_)
  · obtain ⟨x, ld, po, L, S, c, rfl, _⟩ := h
    rfl
  · obtain ⟨x, ld, po, L, S, c, rfl, hS, hL, k⟩ := h
    have hu := hu_of hr
    have hbig := sizeLine_big
    obtain ⟨dx, pl, pd, xs, ms, kl, h1, h2, h3, h4, h5, h6, h7, h8, h9, h10, h11, h12⟩ := id hS
    have hlen : xs.length = L.length := h4.length
    refine ⟨_, pss_one (ps_ret (pe_lc (own := [("place", 1), ("product", 2)]) rfl scWithoutLead.nd (pi_enum (by rfl) T.enumerate (pa_cons (pe_fld (pv 0) rfl) pa_nil)) (blkOk_by (by kernel_rfl))
        (fun _ _ _ _ _ => by exact pg_tupK K rfl (n := 2) rfl (pgs_cons (pg_name (i := 1) scWithoutLead.nd rfl (.inl rfl)) (pgs_cons (pg_name (i := 2) scWithoutLead.nd rfl (.inl rfl)) pgs_nil)))
        (fun _ _ _ _ _ => by exact pts_one (pt_cmp (pc_dnotin hu (pv 1) (pe_fldK K rfl (pv 0) rfl)))) (fun _ _ _ _ _ => pv 2))), ?_⟩
    refine ⟨_, rfl, x, C, dx, _, _, rfl, h1, ST.cl, ST.nPr, sf_products _ _ _ _, pl, xs, rfl, SqL.of h2, fun D hD => lc_data (walk_enum (K := K) (a := pl) (xs := xs)) (List.range xs.length) (fun i => !S.any fun lv => lv.1 == i) (fun i => xs.getD i .non) (fun _ v b => v = b) List.length_range (by omega) hD (fun _ _ _ _ _ h => h) (fun H' s' => SqL.of (s' _ _ h2)) ?_ ?_⟩
    · rintro i z H3 H4 j hj s3 ⟨T', y1, y2, rfl, hT, rfl, e1, e2⟩ Z N hZ hN
      have hji : j = i := by
        obtain ⟨q1, q2⟩ := List.getElem?_eq_some_iff.mp hj
        rw [List.getElem_range] at q2
        exact q2.symm
      subst hji
      obtain rfl : V.int (j : Nat) = y1 := Option.some.inj e1
      have sT := Same.fresh (o := .tup [V.int (j : Nat), y2]) hT
      have sH := s3.trans sT
      refine ⟨T', _, rfl, SqT.of upd_same, rfl, _, _, rfl, _, _, rfl, rfl, rfl, ?_⟩
      refine ⟨_, rfl, _, rfl, x, C, dx, _, _, rfl, sH _ _ h1, ST.cl, ST.nLe, sf_leads _ _ _ _, ld, _, rfl, DGet.k (k := ki j) (sH _ _ h7), _, rfl, ?_⟩
      rw [h8.some_iff j]
      refine ite2 (fun hf => ?_) (fun hf => ?_)
      · refine ⟨_, rfl, hZ _ _ hf sT ?_⟩
        rw [List.getD_eq_getElem?_getD]
        have e2' : xs[j]? = some y2 := e2
        rw [e2']
        rfl
      · exact hN _ (by simpa using hf) sT
    · intro H3 ys s3 hD3 hys
      have e := prs_eq hys
      refine k _ _ _ s3 hD3 ?_
      rw [e, List.length_map, hlen]
end
end Rz
-- part W10
set_option Elab.async false
set_option linter.all false
set_option maxRecDepth 100000
set_option maxHeartbeats 4000000
namespace Rz
open PySem L2
/-- products_counted -/
def pcStep (d : Nat) (f k : Nat) : Nat := f * (d + k) / k
def pcM (n d : Nat) : Nat := (List.range (n - 1)).foldl (fun f i => pcStep d f (i + 1)) 1
def roomM (n d : Nat) : Bool := decide (d ≤ (if n ≤ 3 then 24 else 10)) && decide (pcM n d ≤ 200)
section
variable {P : Program} {w : World} {K : PySem.W.Frag} {mg : Str → Option Value} {base : Heap}
theorem pcM_all : ∀ d < 25, ∀ j < 10, ((List.range j).foldl (fun f i => pcStep d f (i + 1)) 1) ≤ 1000000000 := by decide +kernel
theorem pcM_le (d j : Nat) (hd : d ≤ 24) (hj : j ≤ 9) : ((List.range j).foldl (fun f i => pcStep d f (i + 1)) 1) ≤ 1000000000 := pcM_all d (by omega) j (by omega)
/-! ### products_counted, is_room, look_room -/
def spCounted : Sp := fun vs H Q _ => ∃ n d : Nat, vs = [.int (n : Nat), .int (d : Nat)] ∧ 1 ≤ n ∧ n ≤ 10 ∧ d ≤ 24 ∧ ∀ H', Same H H' → Q (.int (pcM n d : Nat)) H'
theorem scCounted : FnScope ["n", "d", "found", "k"] ["n", "d"] (defScope sCounted) := ⟨rfl, rfl, rfl, by decide +kernel, rfl, by decide +kernel, by decide +kernel⟩
theorem ok_counted {f : Addr} {fd : FuncData} (F : Fun K "products_counted" "products_counted" sCounted f fd) (T : Bt mg) : FnOk P w K mg base CX0 1 f fd ["n", "d"] spCounted := by
  refine F.ok scCounted (fun vs H Q E h => ?_) (fun cdv A outer s H vs Q E hr h => ?_)
  · obtain ⟨n, d, rfl, _⟩ := h
    rfl
  · obtain ⟨n, d, rfl, h1, h10, hd, k⟩ := h
    refine ⟨_, pss_cons (ps_set (i := 2) scCounted.nd rfl (.inl rfl) pe_int)
      (pss_cons (ps_for PassesOwn.never rfl (pi_range2 (by rfl) T.range (pa_cons pe_int (pa_cons (pv 0) pa_nil))) (pg_name (i := 3) scCounted.nd rfl (.inl rfl))
        (pss_one (ps_set (i := 2) scCounted.nd rfl (.inl rfl) (pe_op op_fdivN (pe_op op_mul (pv 2) (pe_op op_add (pv 1) (pv 3))) (pv 3)))))
      (pss_one (ps_ret (pv 2)))), ?_⟩
    refine ⟨_, rfl, _, _, rfl, ⟨by decide, by decide, by omega, by omega⟩, for_it (walk_range (lo := 1) (n := ((n : Int) - 1).toNat)) (fun i σ H' => H' = H ∧ ∃ b, σ = [some (.int (n : Nat)), some (.int (d : Nat)), some (.int (((List.range i).foldl (fun f i => pcStep d f (i + 1)) 1 : Nat))), b])
      ⟨rfl, none, rfl⟩ (fun _ _ _ _ _ => trivial) ?_ ?_⟩
    · rintro i v σ Ho H1 hi ⟨rfl, b, rfl⟩ ⟨rfl, rfl⟩
      have hb := pcM_le d i hd (by omega)
      refine ⟨_, rfl, _, rfl, _, rfl, _, _, rfl, rfl, _, _, rfl, rfl, .inl ⟨?_, ?_⟩, _, rfl, _, _, rfl, rfl, ⟨?_, ?_⟩, ?_⟩
      · have : (0 : Int) ≤ (((List.range i).foldl (fun f i => pcStep d f (i + 1)) 1 : Nat) : Int) := Int.natCast_nonneg _
        omega
      · omega
      · omega
      · omega
      · refine ⟨rfl, some (V.int (1 + (i : Nat))), ?_⟩
        have e : (List.range (i + 1)).foldl (fun f i => pcStep d f (i + 1)) 1 = pcStep d ((List.range i).foldl (fun f i => pcStep d f (i + 1)) 1) (i + 1) := by
          rw [List.range_succ, List.foldl_append]
          rfl
        rw [e]
        generalize (List.range i).foldl (fun f i => pcStep d f (i + 1)) 1 = g
        have e2 : ((g : Int) * ((d : Int) + (1 + (i : Int)))).fdiv (1 + (i : Int)) = ((pcStep d g (i + 1) : Nat) : Int) := by
          have a1 : (1 + (i : Int)) = ((i + 1 : Nat) : Int) := by omega
          have a2 : ((d : Int) + ((i + 1 : Nat) : Int)) = ((d + (i + 1) : Nat) : Int) := by omega
          rw [a1, a2, ← Int.natCast_mul, PySem.W.os_fdiv_nat _ _ (by omega)]
          rfl
        show [some (V.int (n : Nat)), some (V.int (d : Nat)), some (V.int (((g : Int) * ((d : Int) + (1 + (i : Int)))).fdiv (1 + (i : Int)))), some (V.int (1 + (i : Int)))] = _
        rw [e2]
    · rintro σ H1 ⟨rfl, b, rfl⟩
      refine ⟨_, rfl, ?_⟩
      have e : (((n : Int) - 1).toNat) = n - 1 := by omega
      rw [e]
      exact k _ (Same.refl _)
structure Cn (mg : Str → Option Value) : Prop where
  prods : ∃ t, mg "MOST_PRODUCTS" = some (.int 200 t)
  few : ∃ t, mg "FEW_LETTERS" = some (.int 3 t)
  deg : ∃ t, mg "MOST_DEGREE" = some (.int 24 t)
  degM : ∃ t, mg "MOST_DEGREE_OF_MORE" = some (.int 10 t)
def spRoom : Sp := fun vs H Q _ => ∃ n d : Nat, vs = [.int (n : Nat), .int (d : Nat)] ∧ 1 ≤ n ∧ n ≤ 10 ∧ d ≤ 24 ∧ roomM n d = true ∧ ∀ H', Same H H' → Q (.bl true) H'
theorem scIsRoom : FnScope ["n", "d", "most"] ["n", "d"] (defScope sIsRoom) := ⟨rfl, rfl, rfl, by decide +kernel, rfl, by decide +kernel, by decide +kernel⟩
theorem ok_isRoom {f : Addr} {fd : FuncData} (F : Fun K "is_room" "is_room" sIsRoom f fd) (N : Cn mg) (C : Cal P w K mg base 1 "products_counted" ["n", "d"] spCounted) : FnOk P w K mg base CX0 2 f fd ["n", "d"] spRoom := by
  refine F.ok scIsRoom (fun vs H Q E h => ?_) (fun cdv A outer s H vs Q E hr h => ?_)
  · obtain ⟨n, d, rfl, _⟩ := h
    rfl
  · obtain ⟨n, d, rfl, h1, h10, hd, hroom, k⟩ := h
    obtain ⟨⟨t1, n1⟩, ⟨t2, n2⟩, ⟨t3, n3⟩, ⟨t4, n4⟩⟩ := N
    refine ⟨_, pss_cons (ps_set (i := 2) scIsRoom.nd rfl (.inl rfl) (pe_ifExp (pt_cmpR op_le (pv 0) (pe_glob (v := .int 3) (by rfl) n2 ⟨_, rfl⟩) (nomark _)) (pe_glob (v := .int 24) (by rfl) n3 ⟨_, rfl⟩) (pe_glob (v := .int 10) (by rfl) n4 ⟨_, rfl⟩)))
      (pss_one (ps_ret (pe_and (pe_cmpR op_le (pv 1) (pv 2) (nomark _)) (pe_one (pe_cmpR op_le (pc C hr (by rfl) (pa_cons (pv 0) (pa_cons (pv 1) pa_nil))) (pe_glob (v := .int 200) (by rfl) n1 ⟨_, rfl⟩) (nomark _)))))), ?_⟩
    unfold roomM at hroom
    simp only [Bool.and_eq_true, decide_eq_true_eq] at hroom
    obtain ⟨r1, r2⟩ := hroom
    have fin : ∀ m : Nat, d ≤ m → (tAndV (tOp (rI0 fun i j => .bl (decide (i ≤ j))) (tVar 1) (tVar 2)) (tOp (rI0 fun i j => .bl (decide (i ≤ j))) (tCall spCounted [] E0 (tCons (tVar 0) (tCons (tVar 1) tNil))) (tC (.int 200)))) [some (.int (n : Nat)), some (.int (d : Nat)), some (.int (m : Nat))] H Q := fun m hm => by
      refine ⟨_, rfl, _, rfl, _, _, rfl, rfl, _, rfl, ?_⟩
      rw [decide_eq_true (by omega)]
      refine iteT ?_
      refine ⟨_, rfl, _, rfl, n, d, rfl, h1, h10, hd, fun H1 s1 => ⟨_, _, rfl, rfl, ?_⟩⟩
      show Q (.bl (decide (((pcM n d : Nat) : Int) ≤ 200))) H1
      rw [decide_eq_true (by omega)]
      exact k _ s1
    refine ⟨_, rfl, _, _, rfl, rfl, _, rfl, ?_⟩
    refine ite2 (fun hc => ?_) (fun hc => ?_)
    · have : n ≤ 3 := by have := of_decide_eq_true hc; omega
      rw [if_pos this] at r1
      exact fin 24 r1
    · have : ¬ n ≤ 3 := fun z => hc (decide_eq_true (by omega))
      rw [if_neg this] at r1
      exact fin 10 r1
def spLookRoom : Sp := fun vs H Q _ => ∃ n d : Nat, vs = [.int (n : Nat), .int (d : Nat)] ∧ 1 ≤ n ∧ n ≤ 10 ∧ d ≤ 24 ∧ roomM n d = true ∧ ∀ H', Same H H' → Q .non H'
theorem scLookRoom : FnScope ["n", "d"] ["n", "d"] (defScope sLookRoom) := ⟨rfl, rfl, rfl, by decide +kernel, rfl, by decide +kernel, by decide +kernel⟩
theorem ok_lookRoom {f : Addr} {fd : FuncData} (F : Fun K "look_room" "look_room" sLookRoom f fd) (C : Cal P w K mg base 2 "is_room" ["n", "d"] spRoom) : FnOk P w K mg base CX0 3 f fd ["n", "d"] spLookRoom := by
  refine F.ok scLookRoom (fun vs H Q E h => ?_) (fun cdv A outer s H vs Q E hr h => ?_)
  · obtain ⟨n, d, rfl, _⟩ := h
    rfl
  · obtain ⟨n, d, rfl, h1, h10, hd, hroom, k⟩ := h
    refine ⟨_, pss_one (ps_if (pt_not (pt_val (pc C hr (by rfl) (pa_cons (pv 0) (pa_cons (pv 1) pa_nil))))) (pss_one ps_never) pss_nil), ?_⟩
    refine ⟨_, rfl, _, rfl, n, d, rfl, h1, h10, hd, hroom, fun H1 s1 => ⟨_, rfl, ?_⟩⟩
    exact iteF (k _ s1)
/-! ### all_products -/
def spAll (m : Nat) : Sp := fun vs H Q _ => ∃ n d : Nat, vs = [.int (n : Nat), .int (d : Nat)] ∧ 1 ≤ n ∧ n ≤ m ∧ n ≤ 10 ∧ d ≤ 1000 ∧ (allP n d).length ≤ 10000 ∧ ∀ H' D ys, Same H H' → H D = none → H' D = some (.lst ys) → Paired (IsP H') ys (allP n d) → Q (.ref D) H'
theorem scAll : FnScope ["n", "d", "found", "exponent", "product"] ["n", "d"] (defScope sAllProducts) := ⟨rfl, rfl, rfl, by decide +kernel, rfl, by decide +kernel, by decide +kernel⟩
theorem allP_succ (m d : Nat) : allP (m + 2) d = (List.range (d + 1)).flatMap fun e => (allP (m + 1) (d - e)).map (e :: ·) := rfl
theorem flatMap_take {α β : Type} (f : α → List β) (l : List α) (i : Nat) : ((l.take i).flatMap f).length ≤ (l.flatMap f).length := by
  have h : l.flatMap f = (l.take i).flatMap f ++ (l.drop i).flatMap f := by rw [← List.flatMap_append, List.take_append_drop]
  rw [h, List.length_append]
  omega
theorem ok_all {f : Addr} {fd : FuncData} (F : Fun K "all_products" "all_products" sAllProducts f fd) (T : Bt mg) (g : mg "all_products" = some (.ref f)) (b : Binds K fd ["n", "d"] []) : ∀ m : Nat, FnOk P w K mg base CX0 m f fd ["n", "d"] (spAll m)
  | 0 => ⟨fun vs H Q E h => by
      obtain ⟨n, d, _, h1, h2, _⟩ := h
      omega, fun A outer s H args us vs Q E hr he hb hv h => by
      obtain ⟨n, d, _, h1, h2, _⟩ := h
      omega⟩
  | m + 1 => by
    have ih : FnOk P w K mg base CX0 m f fd ["n", "d"] (spAll m) := ok_all F T g b m
    have C : Cal P w K mg base m "all_products" ["n", "d"] (spAll m) := ⟨f, fd, ih, g, F.kp, b⟩
    refine F.ok scAll (fun vs H Q E h => ?_) (fun cdv A outer s H vs Q E hr h => ?_)
    · obtain ⟨n, d, rfl, _⟩ := h
      rfl
    · obtain ⟨n, d, rfl, h1, hm, hn10, hd, hz, k⟩ := h
      have hbig := sizeLine_big
      refine ⟨_, pss_cons (ps_if (pt_cmpR op_eq (pv 0) pe_int (nomark _)) (pss_one (ps_ret (pe_lst (pa_cons (pe_tup (pa_cons (pv 1) pa_nil)) pa_nil)))) pss_nil)
        (pss_cons (ps_set (i := 2) scAll.nd rfl (.inl rfl) (pe_lst pa_nil))
        (pss_cons (ps_for PassesOwn.never rfl (pi_range1 (by rfl) T.range (pa_cons (pe_op op_add (pv 1) pe_int) pa_nil)) (pg_name (i := 3) scAll.nd rfl (.inr rfl))
          (pss_one (ps_expr (pe_bm PySem.F.plainAttrs_list PySem.F.slot_list_extend PySem.F.type_list_extend mt_extend (pv 2) (pa_cons
            (pe_lc (own := [("product", 4)]) (g := gName 4) (tt := tYes) rfl scAll.nd (pi_listK K rfl (pc C hr (by rfl) (pa_cons (pe_op op_sub (pv 0) pe_int) (pa_cons (pe_op op_sub (pv 1) (pv 3)) pa_nil)))) (blkOk_by (by kernel_rfl)) (fun _ _ _ _ _ => pg_name (i := 4) scAll.nd rfl (.inl rfl)) (fun _ _ _ _ _ => pts_nil)
              (fun _ _ _ _ _ => by exact pe_op (op_catK K rfl) (pe_tup (pa_cons (pv 3) pa_nil)) (pv 4))) pa_nil)))))
        (pss_one (ps_ret (pv 2))))), ?_⟩
      refine ⟨_, rfl, rfl, _, rfl, ?_⟩
      rw [dec_int]
      by_cases hn1 : n = 1
      · subst hn1
        refine iteT ?_
        refine ⟨_, rfl, (by show 1 ≤ sizeLine; omega), fun t ht => ⟨(by show 1 ≤ sizeLine; omega), fun D hD => ?_⟩⟩
        have s1 := Same.fresh (o := .tup [V.int (d : Nat)]) ht
        refine k _ D _ (s1.trans (Same.fresh hD)) (s1.free hD) upd_same ?_
        exact .cons ⟨t, rfl, Same.fresh hD _ _ upd_same⟩ .nil
      · have e0 : (((n : Nat) : Int) == 1) = false := by
          have : ¬ (n : Int) = 1 := by omega
          simpa using this
        rw [e0]
        refine iteF ?_
        obtain ⟨j, rfl⟩ : ∃ j, n = j + 2 := ⟨n - 2, by omega⟩
        rw [allP_succ] at hz k
        refine ⟨Nat.zero_le _, fun fl hfl => ?_⟩
        have sf0 := Same.fresh (o := .lst []) hfl
        refine ⟨_, rfl, _, _, rfl, rfl, _, rfl, (by omega), (by omega), for_it (walk_range (lo := 0) (n := ((d : Int) + 1).toNat)) (fun i σ H' => ∃ ys a b, σ = [some (.int ((j + 2 : Nat) : Int)), some (.int (d : Nat)), some (.ref fl), a, b] ∧ Same H H' ∧ H' fl = some (.lst ys) ∧
            Paired (IsP H') ys (((List.range (d + 1)).take i).flatMap fun e => (allP (j + 1) (d - e)).map (e :: ·)))
          ⟨[], none, none, rfl, sf0, upd_same, .nil⟩ (fun _ _ _ _ _ => trivial) ?_ ?_⟩
        · rintro i v σ Ho H1 hi ⟨ys, a, b', rfl, s1, hy, pr⟩ ⟨rfl, hv⟩
          obtain rfl : v = V.int (i : Nat) := hv.trans (z0 i)
          have hi' : i < d + 1 := by omega
          have hri : (List.range (d + 1))[i]? = some i := by rw [List.getElem?_eq_getElem (by rw [List.length_range]; exact hi'), List.getElem_range]
          have hsn : ((List.range (d + 1)).take (i + 1)).flatMap (fun e => (allP (j + 1) (d - e)).map (e :: ·)) = ((List.range (d + 1)).take i).flatMap (fun e => (allP (j + 1) (d - e)).map (e :: ·)) ++ (allP (j + 1) (d - i)).map (i :: ·) := by
            rw [take_snoc hri, List.flatMap_append, List.flatMap_cons, List.flatMap_nil, List.append_nil]
          have hlt := flatMap_take (fun e => (allP (j + 1) (d - e)).map (e :: ·)) (List.range (d + 1)) (i + 1)
          rw [hsn, List.length_append, List.length_map] at hlt
          have hyl : ys.length = _ := pr.length
          have e1 : (((j + 2 : Nat) : Int) - 1) = ((j + 1 : Nat) : Int) := by omega
          have e2 : ((d : Int) - (i : Int)) = ((d - i : Nat) : Int) := by omega
          refine ⟨_, rfl, .inl ⟨rfl, _, SqL.of hy⟩, ?_⟩
          refine ⟨_, rfl, _, _, rfl, rfl, _, rfl, _, rfl, _, _, rfl, rfl, j + 1, d - i, (by show [V.int (((j + 2 : Nat) : Int) - 1), V.int ((d : Int) - (i : Int))] = _; rw [e1, e2]), (by omega), (by omega), (by omega), (by omega), (by omega), fun H2 q zs s2 hq0 hq hzs => ?_⟩
          have hzl : zs.length = _ := hzs.length
          refine ⟨q, rfl, ⟨_, SqL.of hq⟩, fun D hD => lc_data (walk_list (K := K) (a := q) (xs := zs)) (allP (j + 1) (d - i)) (fun _ => true) (i :: ·) IsP hzl.symm (by omega) hD (fun _ _ _ _ s h => h.mono s) (fun H' s' => SqL.of (s' _ _ hq)) ?_ ?_⟩
          · rintro a2 x Ho3 H3 p hp s3 ⟨rfl, hx⟩ Z N hZ hN
            obtain ⟨p', hp', tq, rfl, htq⟩ := Pd.get hzs hx
            rw [hp] at hp'
            cases hp'
            refine ⟨rfl, _, rfl, (by show 1 ≤ sizeLine; omega), fun t ht => ?_⟩
            have s4 := Same.fresh (o := .tup [V.int (i : Nat)]) ht
            have hpl : p.length = j + 1 := ((mem_allP (by omega)).mp (List.mem_of_getElem? hp)).1
            refine ⟨_, rfl, _, _, _, _, rfl, rfl, SqT.of upd_same, SqT.of (s4 _ _ (s3 _ _ htq)), (by rw [pvs_len]; show 1 + p.length ≤ sizeLine; omega), fun hg => (nomatch hg), fun _ hg => ?_, fun _ _ r hr' => ?_⟩
            · have : p = [] := by
                cases p with
                | nil => rfl
                | cons a b => cases hg
              rw [this] at hpl
              cases hpl
            · exact hZ _ _ rfl (s4.trans (Same.fresh hr')) ⟨r, rfl, upd_same⟩
          · intro H3 ws s3 hD3 hws
            rw [lcw] at hws
            have hwl : ws.length = _ := hws.length
            rw [List.length_map] at hwl
            refine ⟨fl, D, ys, ws, rfl, rfl, s3 _ _ (s2 _ _ hy), hD3, by omega, ?_⟩
            have tp := Tups.put (o := .lst (ys ++ ws)) (s3 _ _ (s2 _ _ hy)) trivial
            refine ⟨_, _, _, rfl, Same.put (s1.trans (s2.trans s3)) hfl, upd_same, ?_⟩
            rw [hsn]
            exact Pd.app (Prs.mono (((Tups.of s2).trans (Tups.of s3)).trans tp) pr) (Prs.mono tp hws)
        · rintro σ H1 ⟨ys, a, b', rfl, s1, hy, pr⟩
          have e : (((d : Int) + 1).toNat) = d + 1 := by omega
          rw [e, List.take_of_length_le (by rw [List.length_range]; exact Nat.le_refl _)] at pr
          refine ⟨_, rfl, ?_⟩
          exact k _ _ _ s1 hfl hy pr
end
end Rz
-- part W11
set_option Elab.async false
set_option linter.all false
set_option maxRecDepth 100000
set_option maxHeartbeats 4000000
namespace Rz
open PySem L2
/-! ### sum(t), t a tuple of ints -/
def rSumT (K : PySem.W.Frag) : List V → Hp → VK → Prop := fun vs H Q => ∃ (a : Addr) (ns : List Int), vs = [V.ref a] ∧ SqT K H a (ns.map V.int) ∧ Q (.int ns.sum) H
section
variable {X : Cx}
open PyProof.Rows in
theorem cr_sumT (K : PySem.W.Frag) (hK : X.K = K) (hc : X.calm = true) : CallR X (.builtin "sum") (rSumT K) := by
  subst hK
  intro pins s σ H vs us Q I r h
  obtain ⟨a, ns, rfl, hs, q⟩ := h
  obtain ⟨its, rv, ht, _⟩ := I.tuple hs
  rw [Vals.ref1 r]
  have hi := rv.ints
  obtain ⟨xs, e⟩ := hi.allInts.items
  have hn : numsOf (intItems xs).toList = ns := by rw [← e]; exact hi.numsOf
  rw [nums_intItems] at hn
  rw [e] at ht
  refine PySem.W.ktm_sumG (I.ok.hd hc) ht fun h' tk t' hk => ?_
  rw [preSum_eq, List.take_of_length_le (by simp), hn]
  exact ⟨.int _, H, I.kept hk, ⟨_, rfl⟩, q⟩
end
section
variable {P : Program} {w : World} {K : PySem.W.Frag} {mg : Str → Option Value} {base : Heap}
/-! ### degrees -/
def spDegrees : Sp := fun vs H Q _ => ∃ (y : V) (qs : List (List Nat)) (d : Nat), vs = [y] ∧ IsS H y qs ∧ qs ≠ [] ∧ qs.length ≤ 60 ∧ (∀ q ∈ qs, q.sum = d) ∧ ∀ H' l, Same H H' → H' l = some (.lst [.int (d : Nat)]) → Q (.ref l) H'
theorem scDegrees : FnScope ["some", "product"] ["some"] (defScope sDegrees) := ⟨rfl, rfl, rfl, by decide +kernel, rfl, by decide +kernel, by decide +kernel⟩
theorem sum_pvs (p : List Nat) : (p.map fun e => ((e : Nat) : Int)).sum = ((p.sum : Nat) : Int) := sum_cast p
theorem pvs_map (p : List Nat) : pvs p = (p.map fun e => ((e : Nat) : Int)).map V.int := by
  unfold pvs
  rw [List.map_map]
  rfl
theorem ok_degrees {f : Addr} {fd : FuncData} (F : Fun K "degrees" "degrees" sDegrees f fd) (T : Bt mg) : FnOk P w K mg base CX0 1 f fd ["some"] spDegrees := by
  refine F.ok scDegrees (fun vs H Q E h => ?_) (fun cdv A outer s H vs Q E hr h => ?_)
  · obtain ⟨y, qs, d, rfl, _⟩ := h
    rfl
  · obtain ⟨y, qs, d, rfl, ⟨t, xs, rfl, ht, hqs⟩, hne, hz, hd, k⟩ := h
    have hbig := sizeLine_big
    have hlen : xs.length = qs.length := hqs.length
    refine ⟨_, pss_one (ps_ret (pe_callB (cr_sortedSet rfl) (by rfl) T.sorted bb_sorted (pa_cons (pe_callTy (cr_setLst rfl) (by rfl) T.set bb_set (pa_cons
      (pe_lc (own := [("product", 1)]) (g := gName 1) (tt := tYes) rfl scDegrees.nd (pi_tup (pv 0)) (blkOk_by (by kernel_rfl)) (fun _ _ _ _ _ => pg_name (i := 1) scDegrees.nd rfl (.inl rfl)) (fun _ _ _ _ _ => pts_nil)
        (fun _ _ _ _ _ => by exact pe_callB (cr_sumT K rfl rfl) (by rfl) T.sum bb_sum (pa_cons (pv 1) pa_nil))) pa_nil)) pa_nil))), ?_⟩
    refine ⟨_, rfl, t, rfl, ⟨_, SqT.of ht⟩, fun D hD => lc_data (walk_tup (K := K) (a := t) (xs := xs)) qs (fun _ => true) (fun p => ((p.sum : Nat) : Int)) (fun _ v (b : Int) => v = V.int b) hlen.symm (by omega) hD (fun _ _ _ _ _ h => h) (fun H' s' => SqT.of (s' _ _ ht)) ?_ ?_⟩
    · rintro i v Ho H1 p hp s1 ⟨rfl, hx⟩ Z N hZ hN
      obtain ⟨p', hp', tq, rfl, hq⟩ := Pd.get hqs hx
      rw [hp] at hp'
      cases hp'
      refine ⟨rfl, _, rfl, tq, p.map fun e => ((e : Nat) : Int), rfl, SqT.of (by rw [← pvs_map]; exact s1 _ _ hq), hZ _ _ rfl (Same.refl _) ?_⟩
      show V.int _ = V.int _
      rw [sum_pvs]
    · intro H1 ys s1 hy hys
      rw [lcw] at hys
      have e := prs_intI hys
      subst e
      have hl2 : (qs.map fun p => ((p.sum : Nat) : Int)).length ≤ 60 := by rw [List.length_map]; exact hz
      refine ⟨D, _, rfl, SqL.of hy, hl2, fun q c hc hq => ?_⟩
      have sq := Same.fresh (o := SetO w q (fun j => decide (j ∈ qs.map fun p => ((p.sum : Nat) : Int))) c) hq
      refine ⟨q, _, c, rfl, upd_same, by rw [List.length_map] at hc; omega, fun ns l hs hm hl hl0 => ?_⟩
      have en : ns = [((d : Nat) : Int)] := by
        have hin : ∀ k : Int, k ∈ ns ↔ k = d := fun k => by
          rw [hm k, decide_eq_true_eq, List.mem_map]
          constructor
          · rintro ⟨p, hp, rfl⟩
            rw [hd p hp]
          · rintro rfl
            obtain ⟨p, hp⟩ := List.exists_mem_of_ne_nil _ hne
            exact ⟨p, hp, by rw [hd p hp]⟩
        match ns, hs, hin with
        | [], _, hin => exact absurd ((hin d).mpr rfl) (by simp)
        | [a], _, hin => rw [(hin a).mp List.mem_cons_self]
        | a :: b :: r, hs, hin =>
          have ha := (hin a).mp List.mem_cons_self
          have hb := (hin b).mp (List.mem_cons_of_mem _ List.mem_cons_self)
          have := (List.pairwise_cons.mp hs).1 b List.mem_cons_self
          omega
      subst en
      exact k _ l ((s1.trans sq).trans (Same.fresh hl0)) upd_same
end
end Rz
-- part W12
set_option Elab.async false
set_option linter.all false
set_option maxRecDepth 100000
set_option maxHeartbeats 4000000
namespace Rz
open PySem L2
theorem allP_small : ∀ n < 6, ∀ d < 25, roomM n d = true → ∀ d' < 25, d' ≤ d → (allP n d').length ≤ 1000 := by decide +kernel
theorem toggle_len (x : List Nat) : ∀ l : List (List Nat), (toggle x l).length ≤ l.length + 1
  | [] => by simp [toggle]
  | y :: l => by
    unfold toggle
    split
    · simp
      omega
    · split
      · simp
      · have := toggle_len x l
        simp
        omega
theorem oddOf_len : ∀ l : List (List Nat), (oddOf l).length ≤ l.length
  | [] => Nat.le_refl _
  | x :: l => by
    have h1 := toggle_len x (oddOf l)
    have h2 := oddOf_len l
    show (toggle x (oddOf l)).length ≤ l.length + 1
    omega
theorem srt_nodup {l : List (List Nat)} (h : Srt l) : l.Nodup := h.imp fun h e => by
  subst e
  exact List.lt_irrefl _ h
theorem raised_one (p : List Nat) (k : Nat) : raisedM [p] k = oddOf (ways p k) := by
  unfold raisedM
  rw [List.flatMap_cons, List.flatMap_nil, List.append_nil]
theorem fine_one {n d k : Nat} {p : List Nat} (hn : 1 ≤ n) (hn5 : n ≤ 5) (hr : roomM n d = true) (hk : k ∈ parts) (hkd : k ≤ d) (hl : p.length = n) (hs : p.sum = d - k) : Fine k [p] := by
  have hd : d ≤ 24 := by
    unfold roomM at hr
    simp only [Bool.and_eq_true, decide_eq_true_eq] at hr
    split at hr <;> omega
  refine ⟨by simp, fun q hq => ?_⟩
  rw [List.mem_singleton.mp hq]
  refine ⟨fun e => ?_, by omega, by omega, ?_⟩
  · rw [e] at hl
    simp at hl
    omega
  · rw [hl]
    have hall : ∀ n < 6, ∀ d < 25, roomM n d = true → ∀ k ∈ parts, k ≤ d → (k + 1) ^ n ≤ 100000 := by decide +kernel
    exact hall n (by omega) d (by omega) hr k hk hkd
section
variable {P : Program} {w : World} {K : PySem.W.Frag} {mg : Str → Option Value} {base : Heap}
/-! ### raised_space -/
def PartsT (K : PySem.W.Frag) (mg : Str → Option Value) : Prop := ∃ pa : Addr, mg "PARTS" = some (.ref pa) ∧ ∀ H, SqT K H pa (parts.map fun k => V.int (k : Nat))
def spRaisedSpace (C : Addr) : Sp := fun vs H Q _ => ∃ n d : Nat, vs = [.int (n : Nat), .int (d : Nat)] ∧ 1 ≤ n ∧ n ≤ 5 ∧ roomM n d = true ∧
  ∀ (H' : Hp) (x ld po : Addr) (c : Nat), Same H H' → SpaceAt C H' x ld po (allP n d) (spaceM n d) c → c ≤ 100000 → Q (.ref x) H'
theorem scRaisedSpace : FnScope ["n", "d", "found", "k", "product"] ["n", "d"] (defScope sRaisedSpace) := ⟨rfl, rfl, rfl, by decide +kernel, rfl, by decide +kernel, by decide +kernel⟩
def spaceF (n d : Nat) (S : List (Nat × Nat)) (k : Nat) : List (Nat × Nat) := if k ≤ d then putAll (allP n d) k (allP n (d - k)) S else S
theorem ok_raisedSpace {f fI fP C : Addr} {fd fdI fdP : FuncData} (F : Fun K "raised_space" "raised_space" sRaisedSpace f fd) (ST : SpT K mg C) (M : Mk K C fI) (GI : FnOk P w K mg base CX0 1 fI fdI ["self", "products"] (spInit C)) (bI : Binds K fdI ["self", "products"] [])
    (mP : Meth K C "put" fP) (GP : FnOk P w K mg base CX0 2 fP fdP ["self", "mark", "some"] (spPut C)) (bP : Binds K fdP ["self", "mark", "some"] []) (PT' : PartsT K mg)
    (CA : Cal P w K mg base 5 "all_products" ["n", "d"] (spAll 5)) (CR : Cal P w K mg base 4 "raised" ["some", "k"] spRaised) : FnOk P w K mg base CX0 6 f fd ["n", "d"] (spRaisedSpace C) := by
  refine F.ok scRaisedSpace (fun vs H Q E h => ?_) (fun cdv A outer s H vs Q E hr h => ?_)
  · obtain ⟨n, d, rfl, _⟩ := h
    rfl
  · obtain ⟨n, d, rfl, hn, hn5, hroom, k⟩ := h
    obtain ⟨pa, hpa, hPa⟩ := PT'
    have hbig := sizeLine_big
    have hd : d ≤ 24 := by
      have hr := hroom
      unfold roomM at hr
      simp only [Bool.and_eq_true, decide_eq_true_eq] at hr
      split at hr <;> omega
    have hsm : ∀ d', d' ≤ d → (allP n d').length ≤ 1000 := fun d' h => allP_small n (by omega) d (by omega) hroom d' (by omega) h
    refine ⟨_, pss_cons (ps_set (i := 2) scRaisedSpace.nd rfl (.inl rfl) (pe_make M GI (hr.mono (by decide)) (by rfl) ST.mgC bI .nil pass0 (pa_cons (pc CA hr (by rfl) (pa_cons (pv 0) (pa_cons (pv 1) pa_nil))) pa_nil)))
      (pss_cons (ps_for PassesOwn.never rfl (pi_tup (pe_glob (v := .ref pa) (by rfl) hpa rfl)) (pg_name (i := 3) scRaisedSpace.nd rfl (.inl rfl))
        (pss_one (ps_if (pt_cmpR op_le (pv 3) (pv 1) (nomark _))
          (pss_one (ps_for PassesOwn.never rfl (pi_list (pc CA hr (by rfl) (pa_cons (pv 0) (pa_cons (pe_op op_sub (pv 1) (pv 3)) pa_nil)))) (pg_name (i := 4) scRaisedSpace.nd rfl (.inl rfl))
            (pss_one (ps_expr (pe_meth (pv 2) ST.cl mP GP (hr.mono (by decide)) bP .nil pass0 (pa_cons (pe_tup (pa_cons (pv 3) (pa_cons (pv 4) pa_nil))) (pa_cons (pc CR (hr.mono (by decide)) (by rfl) (pa_cons (pe_tup (pa_cons (pv 4) pa_nil)) (pa_cons (pv 3) pa_nil))) pa_nil)))))))
          pss_nil)))
      (pss_one (ps_ret (pv 2)))), ?_⟩
    refine ⟨_, rfl, _, rfl, n, d, rfl, hn, hn5, by omega, by omega, by have := hsm d (Nat.le_refl _); omega, fun H1 pl xs s1 hpl0 hpl hxs x dx nx ndx nex => ?_⟩
    have sa : Same H1 (upd (upd H1 dx (.own x)) x (.ins C dx [])) := (Same.fresh ndx).trans (Same.fresh (by rw [upd_ne nex.symm]; exact nx))
    have hx0 : H x = none := s1.free nx
    refine ⟨x, dx, pl, xs, allP n d, rfl, upd_same, sa _ _ hpl, Prs.mono (Tups.of sa) hxs, nodup_allP n d, by have := hsm d (Nat.le_refl _); omega, fun H2 ld po hS keep hld hpo => ⟨rfl, ?_⟩⟩
    have s2 : Same H H2 := fun b o e => keep _ _ (sa _ _ (s1 _ _ e)) (ne_of_none e hx0)
    have hld0 : H ld = none := by
      cases e : H ld with
      | none => rfl
      | some o => rw [sa _ _ (s1 _ _ e)] at hld; cases hld
    have hpo0 : H po = none := by
      cases e : H po with
      | none => rfl
      | some o => rw [sa _ _ (s1 _ _ e)] at hpo; cases hpo
    refine ⟨pa, rfl, ⟨_, hPa _⟩, for_it (walk_tup (K := K) (a := pa) (xs := parts.map fun k => V.int (k : Nat))) (fun i σ H' => ∃ a b c, σ = [some (.int (n : Nat)), some (.int (d : Nat)), some (.ref x), a, b] ∧ Same H H' ∧ SpaceAt C H' x ld po (allP n d) ((parts.take i).foldl (spaceF n d) []) c ∧ c ≤ i * 1000)
      ⟨none, none, 0, rfl, s2, hS, Nat.zero_le _⟩ (fun _ _ H' _ _ => hPa H') ?_ ?_⟩
    · rintro i v σ Ho H3 hi ⟨a, b, c, rfl, s3, hS3, hc⟩ ⟨rfl, hv⟩
      rw [List.getElem?_map] at hv
      obtain ⟨m, hm, ev⟩ := Option.map_eq_some_iff.mp hv
      obtain rfl : V.int (m : Nat) = v := ev
      have hmp : m ∈ parts := List.mem_of_getElem? hm
      have hi5 : i < 5 := by
        rw [List.length_map] at hi
        exact hi
      have hsn : (parts.take (i + 1)).foldl (spaceF n d) [] = spaceF n d ((parts.take i).foldl (spaceF n d) []) m := by
        rw [take_snoc hm, List.foldl_append]
        rfl
      generalize hS0 : (parts.take i).foldl (spaceF n d) [] = S0 at *
      refine ⟨_, rfl, _, rfl, _, _, rfl, rfl, _, rfl, ?_⟩
      by_cases hmd : m ≤ d
      · rw [decide_eq_true (by omega)]
        refine iteT ?_
        have e2 : ((d : Int) - (m : Int)) = ((d - m : Nat) : Int) := by omega
        have hsm2 := hsm (d - m) (by omega)
        refine ⟨_, rfl, _, rfl, _, rfl, _, _, rfl, rfl, n, d - m, (by show [V.int (n : Nat), V.int ((d : Int) - (m : Int))] = _; rw [e2]), hn, hn5, by omega, by omega, by omega, fun H4 q zs s4 hq0 hq hzs => ?_⟩
        have hzl : zs.length = _ := hzs.length
        have hqpo : q ≠ po := by
          obtain ⟨_, _, _, _, _, _, _, _, _, _, _, _, _, _, _, h10, _⟩ := hS3
          exact (ne_of_none h10 hq0).symm
        have hqld : q ≠ ld := by
          obtain ⟨_, _, _, _, _, _, _, _, _, _, _, _, h7, _⟩ := hS3
          exact (ne_of_none h7 hq0).symm
        refine ⟨q, rfl, ⟨_, SqL.of hq⟩, for_it (walk_list (K := K) (a := q) (xs := zs)) (fun j σ H' => ∃ b c', σ = [some (.int (n : Nat)), some (.int (d : Nat)), some (.ref x), some (.int (m : Nat)), b] ∧ Same H H' ∧ H' q = some (.lst zs) ∧ Paired (IsP H') zs (allP n (d - m)) ∧
            SpaceAt C H' x ld po (allP n d) (putAll (allP n d) m ((allP n (d - m)).take j) S0) c' ∧ c' ≤ i * 1000 + j)
          ⟨b, c, rfl, s3.trans s4, hq, hzs, hS3.mono s4, by omega⟩ (fun _ _ _ _ ⟨_, _, _, _, h, _⟩ => SqL.of h) ?_ ?_⟩
        · rintro j v σ Ho5 H5 hj ⟨b', c', rfl, s5, hq5, hz5, hS5, hc5⟩ ⟨rfl, hv2⟩
          obtain ⟨p, hp, u, rfl, hu⟩ := Pd.get hz5 hv2
          have hpm := (mem_allP hn).mp (List.mem_of_getElem? hp)
          have hj' : j < (allP n (d - m)).length := (List.getElem?_eq_some_iff.mp hp).1
          have hpne : p ≠ [] := fun e => by
            rw [e] at hpm
            have := hpm.1
            simp at this
            omega
          obtain ⟨dx', pl', pd', xs', ms', kl', g1, _⟩ := id hS5
          have noP : (sf pl' pd' ld po).lookup ("put" : Str) = none := sf_no _ _ _ _ (by decide +kernel) (by decide +kernel) (by decide +kernel) (by decide +kernel)
          have hfine := fine_one hn hn5 hroom hmp hmd hpm.1 hpm.2
          -- found.put((k, product), raised((product,), k))
          refine ⟨_, rfl, x, dx', _, rfl, g1, noP, _, rfl, _, rfl, (by show 2 ≤ sizeLine; omega), fun t ht => ?_⟩
          have sT := Same.fresh (o := .tup [V.int (m : Nat), .ref u]) ht
          refine ⟨_, rfl, (by show 1 ≤ sizeLine; omega), fun t2 ht2 => ?_⟩
          have sT2 := Same.fresh (o := .tup [.ref u]) ht2
          refine ⟨_, rfl, .ref t2, [p], m, rfl, ⟨t2, _, rfl, upd_same, .cons ⟨u, rfl, sT2 _ _ (sT _ _ hu)⟩ .nil⟩, hfine, fun H6 r s6 hr6 => ?_⟩
          have s56 : Same H5 H6 := (sT.trans sT2).trans s6
          have hways : ∀ q' ∈ raisedM [p] m, q' ∈ allP n d := fun q' hq' => by
            obtain ⟨p', hp', hw⟩ := mem_raised hq'
            rw [List.mem_singleton.mp hp'] at hw
            obtain ⟨w1, w2⟩ := way_len p m q' hw
            exact (mem_allP hn).mpr ⟨w1.trans hpm.1, by rw [w2, hpm.2]; omega⟩
          have hwl : (raisedM [p] m).length ≤ 1000000 := by
            rw [raised_one]
            have h1 := oddOf_len (ways p m)
            have h2 := ways_len p m
            have h3 := (hfine.2 p List.mem_cons_self).2.2.2
            omega
          refine ⟨x, ld, po, .ref t, r, allP n d, raisedM [p] m, _, c', rfl, hS5.mono s56, ⟨t, u, m, p, rfl, s6 _ _ (sT2 _ _ upd_same), s56 _ _ hu, hpne⟩, hr6, hways, srt_nodup (srt_oddOf _), hwl, by have := hsm d (Nat.le_refl _); omega, by omega, fun H7 hS7 sb => ?_⟩
          have keep7 : ∀ b o, H5 b = some o → b ≠ ld → b ≠ po → H7 b = some o := fun b o e n1 n2 => sb _ _ (s56 _ _ e) n1 n2
          refine ⟨_, c' + 1, rfl, fun b o e => keep7 _ _ (s5 _ _ e) (ne_of_none e hld0) (ne_of_none e hpo0), keep7 _ _ hq5 hqld hqpo, ?_, ?_, by omega⟩
          · refine Paired.mapP hz5 fun v p hv => ?_
            obtain ⟨t', e, ht'⟩ := hv
            obtain ⟨dx'', pl'', pd'', xs'', ms'', kl'', _, _, _, _, _, _, g7, _, _, g10, _⟩ := hS5
            exact ⟨t', e, keep7 _ _ ht' (ne_of ht' g7 (by intro z; cases z)) (ne_of ht' g10 (by intro z; cases z))⟩
          · have e3 : putAll (allP n d) m ((allP n (d - m)).take (j + 1)) S0 = putM (putAll (allP n d) m ((allP n (d - m)).take j) S0) (numX (allP n d) (raisedM [p] m)) := by
              rw [take_snoc hp, raised_one, numX_oddOf]
              unfold putAll
              rw [List.foldl_append]
              rfl
            rw [e3]
            exact hS7
        · rintro σ H5 ⟨b', c', rfl, s5, hq5, hz5, hS5, hc5⟩
          refine ⟨_, _, c', rfl, s5, ?_, by omega⟩
          rw [hsn]
          unfold spaceF
          rw [if_pos hmd]
          rw [List.take_of_length_le (by omega)] at hS5
          exact hS5
      · rw [decide_eq_false (by omega)]
        refine iteF ?_
        refine ⟨_, _, c, rfl, s3, ?_, by omega⟩
        rw [hsn]
        unfold spaceF
        rw [if_neg hmd]
        exact hS3
    · rintro σ H3 ⟨a, b, c, rfl, s3, hS3, hc⟩
      refine ⟨_, rfl, ?_⟩
      exact k _ x ld po c s3 hS3 (Nat.le_trans hc (by decide))
end
end Rz
-- part Mtk3
set_option Elab.async false
set_option linter.all false
set_option maxRecDepth 1000000
namespace Rz
def tP : List Nat := [8, 4, 4, 2]
def tD : List Nat := [9, 13, 11, 5]
def tL : List Nat := [12, 12, 8, 3, 1]
theorem chk3 : ∀ r < 4, ∀ q < tP.getD r 0 - 1, ∀ e < 7, 2 * e + (r + 1) < tD.getD r 0 → roomM (r + 1) (e + (q + 1)) = true ∧ ∀ p ∈ allP (r + 1) e, leftM (spaceM (r + 1) (e + (q + 1))) (numX (allP (r + 1) (e + (q + 1))) (ways p (q + 1))) = 0 := by decide +kernel
theorem chkR : ∀ r < 5, ∀ l < tL.getD r 0, roomM (r + 1) l = true ∧ roomM (r + 1) (2 * l + (r + 1)) = true := by decide +kernel
end Rz
-- part W13
set_option Elab.async false
set_option linter.all false
set_option maxRecDepth 100000
set_option maxHeartbeats 4000000
namespace Rz
open PySem L2
section
variable {P : Program} {w : World} {K : PySem.W.Frag} {mg : Str → Option Value} {base : Heap}
/-! ### one_degree -/
def spOneDegree : Sp := fun vs H Q _ => ∃ (n : Nat) (y : V) (qs : List (List Nat)) (d : Nat), vs = [.int (n : Nat), y] ∧ IsS H y qs ∧ qs ≠ [] ∧ qs.length ≤ 60 ∧ (∀ q ∈ qs, q.sum = d) ∧ 1 ≤ n ∧ n ≤ 10 ∧ d ≤ 24 ∧ roomM n d = true ∧ ∀ H', Same H H' → Q (.int (d : Nat)) H'
theorem scOneDegree : FnScope ["n", "some", "found"] ["n", "some"] (defScope sOneDegree) := ⟨rfl, rfl, rfl, by decide +kernel, rfl, by decide +kernel, by decide +kernel⟩
theorem ok_oneDegree {f : Addr} {fd : FuncData} (F : Fun K "one_degree" "one_degree" sOneDegree f fd) (T : Bt mg) (CD : Cal P w K mg base 1 "degrees" ["some"] spDegrees) (CL : Cal P w K mg base 3 "look_room" ["n", "d"] spLookRoom) : FnOk P w K mg base CX0 4 f fd ["n", "some"] spOneDegree := by
  refine F.ok scOneDegree (fun vs H Q E h => ?_) (fun cdv A outer s H vs Q E hr h => ?_)
  · obtain ⟨n, y, qs, d, rfl, _⟩ := h
    rfl
  · obtain ⟨n, y, qs, d, rfl, hy, hne, hz, hs, hn, hn10, hd, hroom, k⟩ := h
    refine ⟨_, pss_cons (ps_set (i := 2) scOneDegree.nd rfl (.inl rfl) (pc CD (hr.mono (by decide)) (by rfl) (pa_cons (pv 1) pa_nil)))
      (pss_cons (ps_if (pt_cmpR op_gt (pe_callB call_len_seq (by rfl) T.len bb_len (pa_cons (pv 2) pa_nil)) pe_int (nomark _)) (pss_one ps_never) pss_nil)
      (pss_cons (ps_expr (pc CL hr (by rfl) (pa_cons (pv 0) (pa_cons (pe_ix ix_list (pv 2) pe_int (fun _ _ => rfl)) pa_nil))))
      (pss_one (ps_ret (pe_ix ix_list (pv 2) pe_int (fun _ _ => rfl)))))), ?_⟩
    refine ⟨_, rfl, y, qs, d, rfl, hy, hne, hz, hs, fun H1 l s1 hl => ?_⟩
    refine ⟨_, rfl, l, _, rfl, .inl (SqL.of hl), _, _, rfl, rfl, _, rfl, ?_⟩
    refine iteF ?_
    refine ⟨_, rfl, _, rfl, l, _, _, _, rfl, rfl, SqL.of hl, rfl, n, d, rfl, hn, hn10, hd, hroom, fun H2 s2 => ?_⟩
    refine ⟨_, rfl, l, _, _, _, rfl, rfl, SqL.of (s2 _ _ hl), rfl, k _ (s1.trans s2)⟩
/-! ### pairs_of -/
def IsD (H : Hp) (v : V) (d : Int × List Nat) : Prop := ∃ t u : Addr, v = .ref t ∧ H t = some (.tup [.int d.1, .ref u]) ∧ H u = some (.tup (pvs d.2))
theorem marks_data {H : Hp} : ∀ {ms : List V}, (∀ m ∈ ms, IsM H m) → ∃ ds : List (Int × List Nat), Paired (IsD H) ms ds ∧ ∀ d ∈ ds, d.2 ≠ []
  | [], _ => ⟨[], .nil, fun _ h => absurd h (by simp)⟩
  | m :: ms, h => by
    obtain ⟨ds, h1, h2⟩ := marks_data fun m' hm' => h m' (List.mem_cons_of_mem _ hm')
    obtain ⟨t, u, k, p, e, g1, g2, g3⟩ := h m List.mem_cons_self
    refine ⟨(k, p) :: ds, .cons ⟨t, u, e, g1, g2⟩ h1, fun d hd => ?_⟩
    rcases List.mem_cons.mp hd with q | q
    · rw [q]; exact g3
    · exact h2 d q
def spPairsOf : Sp := fun vs H Q _ => ∃ (l : Addr) (ms : List V), vs = [.ref l] ∧ H l = some (.lst ms) ∧ (∀ m ∈ ms, IsM H m) ∧ ms.length ≤ 1000000 ∧ ∀ H' v, Same H H' → Q v H'
theorem scPairsOf : FnScope ["told", "found", "k", "some", "part", "product"] ["told"] (defScope sPairsOf) := ⟨rfl, rfl, rfl, by decide +kernel, rfl, by decide +kernel, by decide +kernel⟩
theorem ok_pairsOf {f : Addr} {fd : FuncData} (F : Fun K "pairs_of" "pairs_of" sPairsOf f fd) (T : Bt mg) (PT' : PartsT K mg) : FnOk P w K mg base CX0 1 f fd ["told"] spPairsOf := by
  refine F.ok scPairsOf (fun vs H Q E h => ?_) (fun cdv A outer s H vs Q E hr h => ?_)
  · obtain ⟨l, ms, rfl, _⟩ := h
    rfl
  · obtain ⟨l, ms, rfl, hl, hms, hz, k⟩ := h
    obtain ⟨pa, hpa, hPa⟩ := PT'
    have hbig := sizeLine_big
    obtain ⟨ds, hds, hdne⟩ := marks_data hms
    have hlen : ms.length = ds.length := hds.length
    refine ⟨_, pss_cons (ps_set (i := 1) scPairsOf.nd rfl (.inl rfl) (pe_lst pa_nil))
      (pss_cons (ps_for PassesOwn.never rfl (pi_tup (pe_glob (v := .ref pa) (by rfl) hpa rfl)) (pg_name (i := 2) scPairsOf.nd rfl (.inr rfl))
        (pss_cons (ps_set (i := 3) scPairsOf.nd rfl (.inl rfl) (pe_callB (cr_sortPs K rfl (hu100 hr)) (by rfl) T.sorted bb_sorted (pa_cons
          (pe_lc (own := [("part", 4), ("product", 5)]) rfl scPairsOf.nd (pi_list (pv 0)) (blkOk_by (by kernel_rfl))
            (fun _ _ _ _ _ => by exact pg_tupK K rfl (n := 2) rfl (pgs_cons (pg_name (i := 4) scPairsOf.nd rfl (.inl rfl)) (pgs_cons (pg_name (i := 5) scPairsOf.nd rfl (.inl rfl)) pgs_nil)))
            (fun _ _ _ _ _ => by exact pts_one (pt_cmpR op_eq (pv 4) (pv 2) (nomark _))) (fun _ _ _ _ _ => pv 5)) pa_nil)))
        (pss_one (ps_if (pt_cmpR op_gt (pe_callB call_len_seq (by rfl) T.len bb_len (pa_cons (pv 3) pa_nil)) pe_int (nomark _))
          (pss_one (ps_expr (pe_bm PySem.F.plainAttrs_list PySem.F.slot_list_append PySem.F.type_list_append mt_append (pv 1) (pa_cons (pe_tup (pa_cons (pv 2) (pa_cons (pe_callTy (call_tupleK K rfl) (by rfl) T.tuple bb_tuple (pa_cons (pv 3) pa_nil)) pa_nil))) pa_nil))))
          pss_nil))))
      (pss_one (ps_ret (pe_callTy (call_tupleK K rfl) (by rfl) T.tuple bb_tuple (pa_cons (pv 1) pa_nil))))), ?_⟩
    refine ⟨Nat.zero_le _, fun fl hfl => ?_⟩
    have s0 := Same.fresh (o := .lst []) hfl
    refine ⟨pa, rfl, ⟨_, hPa _⟩, for_it (walk_tup (K := K) (a := pa) (xs := parts.map fun k => V.int (k : Nat))) (fun i σ H' => ∃ a b ys, σ = [some (.ref l), some (.ref fl), a, b, none, none] ∧ Same H H' ∧ H' fl = some (.lst ys) ∧ ys.length ≤ i)
      ⟨none, none, [], rfl, s0, upd_same, Nat.zero_le _⟩ (fun _ _ H' _ _ => hPa H') ?_ ?_⟩
    · rintro i v σ Ho H1 hi ⟨a, b, ys, rfl, s1, hy, hyl⟩ ⟨rfl, hv⟩
      have hi5 : i < 5 := by
        rw [List.length_map] at hi
        exact hi
      rw [List.getElem?_map] at hv
      obtain ⟨m, hm, ev⟩ := Option.map_eq_some_iff.mp hv
      obtain rfl : V.int (m : Nat) = v := ev
      refine ⟨_, rfl, l, rfl, ⟨_, SqL.of (s1 _ _ hl)⟩, fun D hD => lc_data (walk_list (K := K) (a := l) (xs := ms)) ds (fun d => d.1 == (m : Int)) (·.2) IsP hlen.symm (by omega) hD (fun _ _ _ _ s h => h.mono s) (fun H' s' => SqL.of (s' _ _ (s1 _ _ hl))) ?_ ?_⟩
      · rintro j x Ho2 H2 d hd s2 ⟨rfl, hx⟩ Z N hZ hN
        obtain ⟨d', hd', t, u, rfl, ht, hu⟩ := Pd.get hds hx
        rw [hd] at hd'
        cases hd'
        have s12 := s1.trans s2
        refine ⟨t, _, rfl, SqT.of (s12 _ _ ht), rfl, _, _, rfl, _, _, rfl, rfl, rfl, ?_⟩
        refine ⟨_, rfl, _, rfl, rfl, _, rfl, ?_⟩
        rw [dec_int]
        refine ite2 (fun hf => ?_) (fun hf => ?_)
        · exact ⟨_, rfl, hZ _ _ hf (Same.refl _) ⟨u, rfl, s12 _ _ hu⟩⟩
        · exact hN _ (by simpa using hf) (Same.refl _)
      · intro H2 zs s2 hD2 hzs
        refine ⟨D, zs, _, rfl, SqL.of hD2, hzs, fun p hp => ?_, fun zs' qs q hperm hsrt hz' hq => ?_⟩
        · obtain ⟨d, hd, rfl⟩ := List.mem_map.mp hp
          exact hdne d (List.mem_filter.mp hd).1
        · have s3 := Same.fresh (o := .lst zs') hq
          have s23 := s2.trans s3
          refine ⟨_, rfl, q, _, rfl, .inl (SqL.of upd_same), _, _, rfl, rfl, _, rfl, ?_⟩
          refine ite2 (fun hc => ?_) (fun hc => ?_)
          · refine ⟨_, rfl, .inl ⟨rfl, _, SqL.of (s23 _ _ hy)⟩, _, rfl, _, rfl, q, _, rfl, .inl ⟨SqL.of upd_same, fun r hr' => ?_⟩⟩
            have s4 := Same.fresh (o := .tup zs') hr'
            refine ⟨(by show 2 ≤ sizeLine; omega), fun u hu => ?_⟩
            have s5 := Same.fresh (o := .tup [V.int (m : Nat), .ref r]) hu
            have s45 := (s23.trans s4).trans s5
            refine ⟨fl, ys, _, rfl, rfl, s45 _ _ hy, by omega, ?_⟩
            refine ⟨_, _, _, rfl, Same.put (s1.trans s45) hfl, upd_same, ?_⟩
            rw [List.length_append, List.length_singleton]
            omega
          · exact ⟨_, _, ys, rfl, s1.trans s23, s23 _ _ hy, by omega⟩
    · rintro σ H1 ⟨a, b, ys, rfl, s1, hy, hyl⟩
      refine ⟨_, rfl, fl, ys, rfl, .inl ⟨SqL.of hy, fun r hr' => ?_⟩⟩
      exact k _ _ (s1.trans (Same.fresh hr'))
/-! ### judged -/
def spJudged : Sp := fun vs H Q _ => ∃ (n : Nat) (y : V) (qs : List (List Nat)), vs = [.int (n : Nat), y] ∧ IsS H y qs ∧ qs.length ≤ 60 ∧ qs.Nodup ∧
  (qs ≠ [] → ∃ d : Nat, (∀ q ∈ qs, q.length = n ∧ q.sum = d) ∧ 1 ≤ n ∧ n ≤ 5 ∧ roomM n d = true ∧ leftM (spaceM n d) (numX (allP n d) qs) = 0) ∧
  ∀ H' t (a b c : V), Same H H' → H' t = some (.tup [.str "raised", a, b, c]) → Q (.ref t) H'
theorem scJudged : FnScope ["n", "some", "space", "told"] ["n", "some"] (defScope sJudged) := ⟨rfl, rfl, rfl, by decide +kernel, rfl, by decide +kernel, by decide +kernel⟩
theorem ok_judged {f fM C : Addr} {fd fdM : FuncData} (F : Fun K "judged" "judged" sJudged f fd) (T : Bt mg) (ST : SpT K mg C) (mM : Meth K C "made_of" fM) (GM : FnOk P w K mg base CX0 2 fM fdM ["self", "some"] (spMadeOf C)) (bM : Binds K fdM ["self", "some"] [])
    (CS : Cal P w K mg base 6 "raised_space" ["n", "d"] (spRaisedSpace C)) (CO : Cal P w K mg base 4 "one_degree" ["n", "some"] spOneDegree) (CP : Cal P w K mg base 1 "pairs_of" ["told"] spPairsOf) : FnOk P w K mg base CX0 7 f fd ["n", "some"] spJudged := by
  refine F.ok scJudged (fun vs H Q E h => ?_) (fun cdv A outer s H vs Q E hr h => ?_)
  · obtain ⟨n, y, qs, rfl, _⟩ := h
    rfl
  · obtain ⟨n, y, qs, rfl, hy, hz, hnd, hq, k⟩ := h
    have hbig := sizeLine_big
    refine ⟨_, pss_cons (ps_if (pt_cmpR op_eq (pe_callB call_len_seq (by rfl) T.len bb_len (pa_cons (pv 1) pa_nil)) pe_int (nomark _)) (pss_one (ps_ret (pe_tup (pa_cons pe_str (pa_cons (pv 0) (pa_cons (pv 1) (pa_cons (pe_tup pa_nil) pa_nil))))))) pss_nil)
      (pss_cons (ps_set (i := 2) scJudged.nd rfl (.inl rfl) (pc CS hr (by rfl) (pa_cons (pv 0) (pa_cons (pc CO (hr.mono (by decide)) (by rfl) (pa_cons (pv 0) (pa_cons (pv 1) pa_nil))) pa_nil))))
      (pss_cons (ps_set (i := 3) scJudged.nd rfl (.inl rfl) (pe_meth (pv 2) ST.cl mM GM (hr.mono (by decide)) bM .nil pass0 (pa_cons (pv 1) pa_nil)))
      (pss_cons (ps_if (pt_cmpR op_isN (pv 3) pe_non (nomark _)) (pss_one ps_never) pss_nil)
      (pss_one (ps_ret (pe_tup (pa_cons pe_str (pa_cons (pv 0) (pa_cons (pv 1) (pa_cons (pc CP (hr.mono (by decide)) (by rfl) (pa_cons (pv 3) pa_nil)) pa_nil)))))))))), ?_⟩
    obtain ⟨t, xs, rfl, ht, hqs⟩ := id hy
    have hlen : xs.length = qs.length := hqs.length
    refine ⟨_, rfl, t, xs, rfl, .inr (SqT.of ht), rfl, _, rfl, ?_⟩
    rw [dec_int]
    by_cases h0 : qs = []
    · subst h0
      have e0 : (((xs.length : Nat) : Int) == 0) = true := by
        rw [hlen]
        rfl
      rw [e0]
      refine iteT ?_
      refine ⟨_, rfl, _, rfl, (Nat.zero_le _), fun u hu => ⟨(by show 4 ≤ sizeLine; omega), fun r hr' => ?_⟩⟩
      exact k _ r _ _ _ ((Same.fresh hu).trans (Same.fresh hr')) upd_same
    · have e0 : (((xs.length : Nat) : Int) == 0) = false := by
        have : 0 < qs.length := List.length_pos_iff.mpr h0
        have h1 : ¬ ((xs.length : Nat) : Int) = 0 := by omega
        simpa using h1
      rw [e0]
      refine iteF ?_
      obtain ⟨d, hd, hn, hn5, hroom, hzero⟩ := hq h0
      have hd24 : d ≤ 24 := by
        have hr := hroom
        unfold roomM at hr
        simp only [Bool.and_eq_true, decide_eq_true_eq] at hr
        split at hr <;> omega
      refine ⟨_, rfl, _, rfl, _, rfl, n, _, qs, d, rfl, hy, h0, hz, fun q hq => (hd q hq).2, hn, by omega, hd24, hroom, fun H1 s1 => ?_⟩
      refine ⟨n, d, rfl, hn, hn5, hroom, fun H2 x ld po c s2 hS hc => ?_⟩
      have s12 := s1.trans s2
      obtain ⟨dx, pl, pd, xs', ms', kl', g1, _⟩ := id hS
      have noM : (sf pl pd ld po).lookup ("made_of" : Str) = none := sf_no _ _ _ _ (by decide +kernel) (by decide +kernel) (by decide +kernel) (by decide +kernel)
      have hal := allP_small n (by omega) d (by omega) hroom d (by omega) (Nat.le_refl _)
      refine ⟨_, rfl, x, dx, _, rfl, g1, noM, _, rfl, x, ld, po, _, allP n d, qs, spaceM n d, c, rfl, hS, hy.mono (Tups.of s12), fun q hq => (mem_allP hn).mpr (hd q hq), hnd, by omega, by omega, by omega, hzero, fun H3 D ys s3 hD hys hyl => ?_⟩
      refine ⟨_, rfl, rfl, _, rfl, ?_⟩
      rw [decide_eq_false (by intro z; cases z)]
      refine iteF ?_
      refine ⟨_, rfl, _, rfl, _, rfl, D, ys, rfl, hD, hys, hyl, fun H4 v s4 => ?_⟩
      refine ⟨(by show 4 ≤ sizeLine; omega), fun r hr' => ?_⟩
      exact k _ r _ _ _ ((s12.trans (s3.trans s4)).trans (Same.fresh hr')) upd_same
/-! ### standing, rows_counted -/
def spStanding : Sp := fun vs H Q _ => ∃ n d : Nat, vs = [.int (n : Nat), .int (d : Nat)] ∧ 1 ≤ n ∧ n ≤ 5 ∧ roomM n d = true ∧ ∀ H' D ys, Same H H' → H' D = some (.lst ys) → ys.length = rowsM n d → Q (.ref D) H'
theorem scStanding : FnScope ["n", "d"] ["n", "d"] (defScope sStanding) := ⟨rfl, rfl, rfl, by decide +kernel, rfl, by decide +kernel, by decide +kernel⟩
theorem ok_standing {f fW C : Addr} {fd fdW : FuncData} (F : Fun K "standing" "standing" sStanding f fd) (ST : SpT K mg C) (mW : Meth K C "without_lead" fW) (GW : FnOk P w K mg base CX0 1 fW fdW ["self"] (spWithoutLead C)) (bW : Binds K fdW ["self"] [])
    (CS : Cal P w K mg base 6 "raised_space" ["n", "d"] (spRaisedSpace C)) (CL : Cal P w K mg base 2 "look_part_lowering" ["k"] spLook) (CR : Cal P w K mg base 3 "look_room" ["n", "d"] spLookRoom) : FnOk P w K mg base CX0 7 f fd ["n", "d"] spStanding := by
  refine F.ok scStanding (fun vs H Q E h => ?_) (fun cdv A outer s H vs Q E hr h => ?_)
  · obtain ⟨n, d, rfl, _⟩ := h
    rfl
  · obtain ⟨n, d, rfl, hn, hn5, hroom, k⟩ := h
    have hd24 : d ≤ 24 := by
      have hr := hroom
      unfold roomM at hr
      simp only [Bool.and_eq_true, decide_eq_true_eq] at hr
      split at hr <;> omega
    refine ⟨_, pss_cons (ps_expr (pc CL (hr.mono (by decide)) (by rfl) (pa_cons (pv 1) pa_nil)))
      (pss_cons (ps_expr (pc CR (hr.mono (by decide)) (by rfl) (pa_cons (pv 0) (pa_cons (pv 1) pa_nil))))
      (pss_one (ps_ret (pe_meth0 (pc CS hr (by rfl) (pa_cons (pv 0) (pa_cons (pv 1) pa_nil))) ST.cl mW GW (hr.mono (by decide)) bW .nil pass0)))), ?_⟩
    refine ⟨_, rfl, d, rfl, ?_⟩
    refine ⟨_, rfl, _, rfl, n, d, rfl, hn, by omega, hd24, hroom, fun H1 s1 => ?_⟩
    refine ⟨_, rfl, _, rfl, n, d, rfl, hn, hn5, hroom, fun H2 x ld po c s2 hS hc => ?_⟩
    obtain ⟨dx, pl, pd, xs', ms', kl', g1, _⟩ := id hS
    have noW : (sf pl pd ld po).lookup ("without_lead" : Str) = none := sf_no _ _ _ _ (by decide +kernel) (by decide +kernel) (by decide +kernel) (by decide +kernel)
    have hal := allP_small n (by omega) d (by omega) hroom d (by omega) (Nat.le_refl _)
    refine ⟨x, dx, _, rfl, g1, noW, x, ld, po, allP n d, spaceM n d, c, rfl, hS, by omega, fun H3 D ys s3 hD hys => ?_⟩
    exact k _ D ys (s1.trans (s2.trans s3)) hD hys
def spRows : Sp := fun vs H Q _ => ∃ n d : Nat, vs = [.int (n : Nat), .int (d : Nat)] ∧ 1 ≤ n ∧ n ≤ 5 ∧ roomM n d = true ∧ ∀ H', Same H H' → Q (.int (rowsM n d : Nat)) H'
theorem scRows : FnScope ["n", "d"] ["n", "d"] (defScope sRowsCounted) := ⟨rfl, rfl, rfl, by decide +kernel, rfl, by decide +kernel, by decide +kernel⟩
theorem ok_rows {f : Addr} {fd : FuncData} (F : Fun K "rows_counted" "rows_counted" sRowsCounted f fd) (T : Bt mg) (C : Cal P w K mg base 7 "standing" ["n", "d"] spStanding) : FnOk P w K mg base CX0 8 f fd ["n", "d"] spRows := by
  refine F.ok scRows (fun vs H Q E h => ?_) (fun cdv A outer s H vs Q E hr h => ?_)
  · obtain ⟨n, d, rfl, _⟩ := h
    rfl
  · obtain ⟨n, d, rfl, hn, hn5, hroom, k⟩ := h
    refine ⟨_, pss_one (ps_ret (pe_callB call_len_seq (by rfl) T.len bb_len (pa_cons (pc C hr (by rfl) (pa_cons (pv 0) (pa_cons (pv 1) pa_nil))) pa_nil))), ?_⟩
    refine ⟨_, rfl, _, rfl, n, d, rfl, hn, hn5, hroom, fun H1 D ys s1 hD hys => ⟨D, ys, rfl, .inl (SqL.of hD), ?_⟩⟩
    rw [hys]
    exact k _ s1
end
end Rz
-- part W14
set_option Elab.async false
set_option linter.all false
set_option maxRecDepth 100000
set_option maxHeartbeats 4000000
namespace Rz
open PySem L2
/-- the bag at b: a cell and a mixed number -/
def BagAt (H : Hp) (b : Addr) : Prop := ∃ c m : Int, H b = some (.lst [.int c, .int m]) ∧ 0 ≤ c ∧ 0 ≤ m ∧ m < 2147483648
/-- all but the object at b is as it was -/
def But (b : Addr) (H H' : Hp) : Prop := ∀ a o, H a = some o → a ≠ b → H' a = some o
theorem But.refl (b : Addr) (H : Hp) : But b H H := fun _ _ h _ => h
theorem But.trans {b : Addr} {H H1 H2 : Hp} (a : But b H H1) (c : But b H1 H2) : But b H H2 := fun x o h n => c x o (a x o h n) n
theorem But.of {b : Addr} {H H' : Hp} (s : Same H H') : But b H H' := fun x o h _ => s x o h
theorem But.put (b : Addr) (H : Hp) (o : HO) : But b H (upd H b o) := fun x u h n => by rw [upd_ne n]; exact h
theorem But.tups {b : Addr} {H H' : Hp} (s : But b H H') (h : BagAt H b) : Tups H H' := fun x xs e => by
  obtain ⟨c, m, hb, _⟩ := h
  exact s x _ e (ne_of e hb (by intro z; cases z))
theorem BagAt.mono {H H' : Hp} (s : Same H H') {b : Addr} (h : BagAt H b) : BagAt H' b := by
  obtain ⟨c, m, h1, h2⟩ := h
  exact ⟨c, m, s _ _ h1, h2⟩
section
variable {P : Program} {w : World} {K : PySem.W.Frag} {mg : Str → Option Value} {base : Heap}
/-! ### _law_bag -/
def spBag (K : PySem.W.Frag) : Sp := fun vs H Q _ => ∃ (a : Addr) (ns : List Int) (i : Nat), vs = [.ref a, .int (i : Nat)] ∧ SqL K H a (ns.map V.int) ∧ ns.length ≤ 63 ∧ i ≤ 2 ∧ ∀ H' b, Same H H' → H b = none → BagAt H' b → Q (.ref b) H'
theorem scBag : FnScope ["_law_script", "_law_at", "_law_cell", "_law_mix", "_law_k"] ["_law_script", "_law_at"] (defScope sBag) := ⟨rfl, rfl, rfl, by decide +kernel, rfl, by decide +kernel, by decide +kernel⟩
theorem ints_get {ns : List Int} {i : Nat} (h : i < ns.length) : (ns.map V.int)[i]? = some (V.int ns[i]) := by
  rw [List.getElem?_map, List.getElem?_eq_getElem h]
  rfl
theorem ok_bag {f : Addr} {fd : FuncData} (F : Fun K "_law_bag" "_law_bag" sBag f fd) (T : Bt mg) : FnOk P w K mg base CX0 1 f fd ["_law_script", "_law_at"] (spBag K) := by
  refine F.ok scBag (fun vs H Q E h => ?_) (fun cdv A outer s H vs Q E hr h => ?_)
  · obtain ⟨a, ns, i, rfl, _⟩ := h
    rfl
  · obtain ⟨a, ns, j, rfl, hS, hlen, hj, k⟩ := h
    have hbig := sizeLine_big
    refine ⟨_, pss_cons (ps_set (i := 2) scBag.nd rfl (.inl rfl) pe_int)
      (C8.pss_cut (ps_if (pt_cmpR op_lt (pv 1) (pe_callB call_len_seq (by rfl) T.len bb_len (pa_cons (pv 0) pa_nil)) (nomark _)) (pss_one (ps_set (i := 2) scBag.nd rfl (.inl rfl) (pe_callB call_abs (by rfl) T.abs bb_abs (pa_cons (pe_ix ix_list (pv 0) (pv 1) (fun _ _ => rfl)) pa_nil)))) pss_nil)
      (pss_cons (ps_set (i := 3) scBag.nd rfl (.inl rfl) (pe_op op_add (pe_op op_mul pe_int (pv 1)) pe_int))
      (pss_cons (ps_for PassesOwn.never rfl (pi_range1 (by rfl) T.range (pa_cons (pe_callB (call_min2 rfl) (by rfl) T.min bb_min (pa_cons (pe_callB call_len_seq (by rfl) T.len bb_len (pa_cons (pv 0) pa_nil)) (pa_cons pe_int pa_nil))) pa_nil)) (pg_name (i := 4) scBag.nd rfl (.inl rfl))
        (pss_one (ps_set (i := 3) scBag.nd rfl (.inl rfl) (pe_op op_mod (pe_op op_add (pe_op op_add (pe_op op_mul (pv 3) pe_int) (pe_op op_mod (pe_ix ix_list (pv 0) (pv 4) (fun _ _ => rfl)) pe_int)) (pv 4)) pe_int))))
      (C8.pss_cut (ps_if (pt_cmpR op_lt (pv 2) (pe_op op_pow pe_int pe_int) (nomark _)) (pss_one (ps_set (i := 2) scBag.nd rfl (.inl rfl) pe_int)) pss_nil)
      (pss_one (ps_ret (pe_lst (pa_cons (pv 2) (pa_cons (pv 3) pa_nil)))))))))
      , ?_⟩
    have hll : (ns.map V.int).length = ns.length := List.length_map _
    refine ⟨fun σ H' => H' = H ∧ ∃ c : Int, 0 ≤ c ∧ σ = [some (.ref a), some (.int (j : Nat)), some (.int c), none, none], ?_, ?_⟩
    · refine ⟨_, rfl, _, rfl, a, _, rfl, .inl hS, _, _, rfl, rfl, _, rfl, ?_⟩
      refine ite2 (fun hc => ?_) (fun hc => ?_)
      · have hj' : j < ns.length := by
          have := of_decide_eq_true hc
          omega
        refine ⟨_, rfl, _, rfl, a, _, _, _, rfl, rfl, hS, atI_nat (ints_get hj'), _, rfl, rfl, _, ?_, rfl⟩
        split <;> omega
      · exact ⟨rfl, 0, by decide, rfl⟩
    · rintro σ H1 ⟨rfl, c, hc, rfl⟩
      refine ⟨_, rfl, _, _, rfl, rfl, .inl ⟨by decide, by decide⟩, _, _, rfl, rfl, ?_⟩
      have emin : (if ((60 : Int) < ((ns.map V.int).length : Int)) then (60 : Int) else ((ns.map V.int).length : Int)) = ((min ns.length 60 : Nat) : Int) := by
        rw [hll]
        split <;> omega
      refine ⟨_, rfl, a, _, rfl, .inl hS, _, _, rfl, (if ((60 : Int) < ((ns.map V.int).length : Int)) then (60 : Int) else ((ns.map V.int).length : Int)), rfl, by rw [emin]; omega, by rw [emin]; omega, ?_⟩
      rw [emin]
      refine for_it (walk_range (lo := 0) (n := ((min ns.length 60 : Nat) : Int).toNat)) (fun i σ H' => H' = H1 ∧ ∃ (m : Int) (z : Option V), 0 ≤ m ∧ m < 2147483648 ∧ σ = [some (.ref a), some (.int (j : Nat)), some (.int c), some (.int m), z])
        ⟨rfl, 7919 * (j : Int) + 17, none, by omega, by omega, rfl⟩ (fun _ _ _ _ _ => trivial) ?_ ?_
      · rintro i v σ Ho H1 hi ⟨rfl, m, z, hm0, hm1, rfl⟩ ⟨rfl, hv⟩
        obtain rfl : v = V.int (i : Nat) := hv.trans (z0 i)
        have hi' : i < ns.length := by
          have : i < min ns.length 60 := hi
          omega
        refine ⟨_, rfl, _, _, rfl, rfl, .inr ⟨by decide, by decide⟩, _, rfl, _, rfl, a, _, _, _, rfl, rfl, hS, atI_nat (ints_get hi'), _, _, rfl, rfl, (by show (0 : Int) < 2147483647; decide), _, _, rfl, rfl, _, rfl, _, _, rfl, rfl, _, _, rfl, rfl, (by show (0 : Int) < 2147483629; decide), ?_⟩
        refine ⟨rfl, _, _, ?_, ?_, rfl⟩
        · exact Int.emod_nonneg _ (by decide)
        · exact Int.lt_trans (Int.emod_lt_of_pos _ (by decide)) (by decide)
      · rintro σ H1 ⟨rfl, m, z, hm0, hm1, rfl⟩
        refine ⟨fun σ H' => H' = H1 ∧ ∃ c : Int, 0 ≤ c ∧ σ = [some (.ref a), some (.int (j : Nat)), some (.int c), some (.int m), z], ?_, ?_⟩
        · refine ⟨_, rfl, _, _, rfl, rfl, ⟨by decide, by decide, by decide⟩, _, _, rfl, rfl, _, rfl, ?_⟩
          refine ite2 (fun hc => ?_) (fun hc' => ?_)
          · exact ⟨rfl, 0, by decide, rfl⟩
          · exact ⟨rfl, c, hc, rfl⟩
        · rintro σ H1 ⟨rfl, c, hc, rfl⟩
          refine ⟨_, rfl, _, rfl, (by show 2 ≤ sizeLine; omega), fun b hb => ?_⟩
          exact k _ b (Same.fresh hb) hb ⟨c, m, upd_same, hc, hm0, hm1⟩
/-! ### _law_take -/
def spTake : Sp := fun vs H Q _ => ∃ (b : Addr) (n : Nat), vs = [.ref b, .int (n : Nat)] ∧ BagAt H b ∧ 1 ≤ n ∧ n ≤ 100000 ∧ ∀ H' (r : Nat), But b H H' → BagAt H' b → r < n → Q (.int (r : Nat)) H'
theorem scTake : FnScope ["_law_bag_here", "_law_many", "_law_digit", "_law_number", "_law_room"] ["_law_bag_here", "_law_many"] (defScope sTake) := ⟨rfl, rfl, rfl, by decide +kernel, rfl, by decide +kernel, by decide +kernel⟩
theorem ok_take {f : Addr} {fd : FuncData} (F : Fun K "_law_take" "_law_take" sTake f fd) : FnOk P w K mg base CX0 1 f fd ["_law_bag_here", "_law_many"] spTake := by
  refine F.ok scTake (fun vs H Q E h => ?_) (fun cdv A outer s H vs Q E hr h => ?_)
  · obtain ⟨b, n, rfl, _⟩ := h
    rfl
  · obtain ⟨b, n, rfl, ⟨c, m, hb, hc, hm0, hm1⟩, hn1, hn, k⟩ := h
    have hbig := sizeLine_big
    refine ⟨_, pss_cons (ps_if (pt_cmpR op_gt (pe_ix ix_list (pv 0) pe_int (fun _ _ => rfl)) pe_int (nomark _))
        (pss_cons (ps_set (i := 2) scTake.nd rfl (.inl rfl) (pe_op op_mod (pe_ix ix_list (pv 0) pe_int (fun _ _ => rfl)) (pv 1)))
        (pss_cons (ps_asg (pe_op op_fdivN (pe_ix ix_list (pv 0) pe_int (fun _ _ => rfl)) (pv 1)) (pg_sub (pv 0) pe_int set_list))
        (pss_one (ps_ret (pv 2))))) pss_nil)
      (pss_cons (ps_set (i := 3) scTake.nd rfl (.inl rfl) pe_int)
      (pss_cons (ps_set (i := 4) scTake.nd rfl (.inl rfl) pe_int)
      (pss_cons (ps_while PassesOwn.never (pt_cmpR op_lt (pv 4) (pv 1) (nomark _))
        (pss_cons (ps_asg (pe_op op_mod (pe_op op_add (pe_op op_mul (pe_ix ix_list (pv 0) pe_int (fun _ _ => rfl)) pe_int) pe_int) pe_int) (pg_sub (pv 0) pe_int set_list))
        (pss_cons (ps_set (i := 3) scTake.nd rfl (.inl rfl) (pe_op op_add (pe_op op_mul (pv 3) pe_int) (pe_op op_mod (pe_op op_mul (pe_op op_fdivN (pe_ix ix_list (pv 0) pe_int (fun _ _ => rfl)) pe_int) pe_int) pe_int)))
        (pss_one (ps_set (i := 4) scTake.nd rfl (.inl rfl) (pe_op op_mul (pv 4) pe_int))))))
      (pss_one (ps_ret (pe_op op_mod (pv 3) (pv 1))))))), ?_⟩
    refine ⟨_, rfl, b, _, _, _, rfl, rfl, SqL.of hb, rfl, _, _, rfl, rfl, _, rfl, ?_⟩
    refine ite2 (fun hcp => ?_) (fun hcp => ?_)
    · have hc0 : 0 < c := of_decide_eq_true hcp
      refine ⟨_, rfl, b, _, _, _, rfl, rfl, SqL.of hb, rfl, _, rfl, _, _, rfl, rfl, (by show (0 : Int) < (n : Int); omega), ?_⟩
      refine ⟨_, rfl, b, _, _, _, rfl, rfl, SqL.of hb, rfl, _, rfl, _, _, rfl, rfl, ⟨by omega, by omega⟩, ?_⟩
      refine ⟨_, rfl, b, _, _, 0, rfl, rfl, hb, rfl, ?_⟩
      have h0 := Int.emod_nonneg c (show ((n : Nat) : Int) ≠ 0 by omega)
      have h1 := Int.emod_lt_of_pos c (show (0 : Int) < ((n : Nat) : Int) by omega)
      obtain ⟨r, hr'⟩ := Int.eq_ofNat_of_zero_le h0
      refine ⟨_, rfl, ?_⟩
      show Q (V.int (c % (n : Int))) _
      rw [hr']
      refine k _ r (But.put _ _ _) ⟨c.fdiv (n : Int), m, upd_same, ?_, hm0, hm1⟩ (by omega)
      rw [Int.fdiv_eq_ediv_of_nonneg _ (by omega)]
      exact Int.ediv_nonneg hc (by omega)
    · refine ⟨fun q σ H' => (q = 1 ∧ H' = H ∧ ∃ z, σ = [some (.ref b), some (.int (n : Nat)), z, some (.int 0), some (.int 1)]) ∨ (q = 0 ∧ But b H H' ∧ BagAt H' b ∧ ∃ (z : Option V) (u : Int), 0 ≤ u ∧ σ = [some (.ref b), some (.int (n : Nat)), z, some (.int u), some (.int 1073741789)]),
        ⟨1, .inl ⟨rfl, rfl, none, rfl⟩⟩, ?_⟩
      rintro q σ H1 (⟨rfl, rfl, z, rfl⟩ | ⟨rfl, hbut, hbag, z, u, hu, rfl⟩)
      · refine ⟨_, rfl, _, rfl, _, _, rfl, rfl, _, rfl, ?_⟩
        refine ite2 (fun hlt => ?_) (fun hlt => ?_)
        · refine ⟨fun σ H' => But b H1 H' ∧ BagAt H' b ∧ ∃ (z : Option V) (u : Int), 0 ≤ u ∧ σ = [some (.ref b), some (.int (n : Nat)), z, some (.int u), some (.int 1073741789)], fun σ' H' h => ⟨0, by decide, .inr ⟨rfl, h⟩⟩, ?_⟩
          refine ⟨_, rfl, b, _, _, _, rfl, rfl, SqL.of hb, rfl, _, _, rfl, rfl, .inr ⟨by decide, by decide⟩, _, _, rfl, rfl, _, _, rfl, rfl, (by show (0 : Int) < 2147483647; decide), ?_⟩
          refine ⟨_, rfl, b, _, _, 1, rfl, rfl, hb, rfl, ?_⟩
          have h0 := Int.emod_nonneg (m * 48271 + 7919) (show (2147483647 : Int) ≠ 0 by decide)
          have h1 := Int.emod_lt_of_pos (m * 48271 + 7919) (show (0 : Int) < 2147483647 by decide)
          generalize hm' : (m * 48271 + 7919) % 2147483647 = m' at *
          refine ⟨_, rfl, _, _, rfl, rfl, .inr ⟨by decide, by decide⟩, _, rfl, b, _, _, _, rfl, rfl, SqL.of upd_same, rfl, _, _, rfl, rfl, ⟨by decide, by decide⟩, _, _, rfl, rfl, .inr ⟨by decide, by decide⟩, _, _, rfl, rfl, (by show (0 : Int) < 1073741789; decide), _, _, rfl, rfl, ?_⟩
          refine ⟨_, rfl, _, _, rfl, rfl, .inr ⟨by decide, by decide⟩, ?_⟩
          refine ⟨But.put _ _ _, ⟨c, m', ?_, hc, h0, by omega⟩, z, _, ?_, rfl⟩
          · rw [← hm']
            exact upd_same
          · have := Int.emod_nonneg (((m * 48271 + 7919) % 2147483647).fdiv 8 * 69621) (show (1073741789 : Int) ≠ 0 by decide)
            show (0 : Int) ≤ 0 * 1073741789 + (((m * 48271 + 7919) % 2147483647).fdiv 8 * 69621) % 1073741789
            rw [Int.zero_mul, Int.zero_add]
            exact this
        · have hn' : n = 1 := by
            have : ¬ ((1 : Int) < (n : Int)) := fun z => hlt (decide_eq_true z)
            omega
          refine ⟨_, rfl, _, rfl, _, _, rfl, rfl, (by show (0 : Int) < (n : Int); omega), ?_⟩
          subst hn'
          exact k _ 0 (But.refl _ _) ⟨c, m, hb, hc, hm0, hm1⟩ (by omega)
      · refine ⟨_, rfl, _, rfl, _, _, rfl, rfl, _, rfl, ?_⟩
        rw [decide_eq_false (by omega)]
        refine iteF ?_
        refine ⟨_, rfl, _, rfl, _, _, rfl, rfl, (by show (0 : Int) < (n : Int); omega), ?_⟩
        have h0 := Int.emod_nonneg u (show ((n : Nat) : Int) ≠ 0 by omega)
        have h1 := Int.emod_lt_of_pos u (show (0 : Int) < ((n : Nat) : Int) by omega)
        obtain ⟨r, hr'⟩ := Int.eq_ofNat_of_zero_le h0
        show Q (V.int (u % (n : Int))) _
        rw [hr']
        exact k _ r hbut hbag (by omega)
end
end Rz
-- part W15
set_option Elab.async false
set_option linter.all false
set_option maxRecDepth 100000
set_option maxHeartbeats 4000000
namespace Rz
open PySem L2
section
variable {P : Program} {w : World} {K : PySem.W.Frag} {mg : Str → Option Value} {base : Heap}
/-! ### _law_of_degree -/
def spOfDegree : Sp := fun vs H Q _ => ∃ (b : Addr) (n d : Nat), vs = [.ref b, .int (n : Nat), .int (d : Nat)] ∧ BagAt H b ∧ 1 ≤ n ∧ n ≤ 10 ∧ d ≤ 900 ∧ ∀ H' v p, But b H H' → BagAt H' b → IsP H' v p → p.length = n → p.sum = d → Q v H'
theorem scOfDegree : FnScope ["_law_bag_here", "_law_n", "_law_d", "_law_left", "_law_exponents", "_law_fork", "_law_k", "_law_e", "_law_at", "_law_x"] ["_law_bag_here", "_law_n", "_law_d"] (defScope sOfDegree) := ⟨rfl, rfl, rfl, by decide +kernel, rfl, by decide +kernel, by decide +kernel⟩
theorem cut_from (xs : List V) (k : Nat) (h : k ≤ xs.length) : cutV xs (some (k : Nat)) none = xs.drop k := by
  unfold cutV
  rw [HT.sIx_nat, HT.sIx_none, Nat.min_eq_left h]
  exact List.take_of_length_le (by rw [List.length_drop]; exact Nat.le_refl _)
theorem cut_to (xs : List V) (k : Nat) (h : k ≤ xs.length) : cutV xs none (some (k : Nat)) = xs.take k := by
  unfold cutV
  rw [HT.sIx_nat, HT.sIx_none, Nat.min_eq_left h]
  rfl
theorem pvs_drop (p : List Nat) (k : Nat) : (pvs p).drop k = pvs (p.drop k) := List.map_drop.symm
theorem pvs_take (p : List Nat) (k : Nat) : (pvs p).take k = pvs (p.take k) := List.map_take.symm
theorem ok_ofDegree {f : Addr} {fd : FuncData} (F : Fun K "_law_of_degree" "_law_of_degree" sOfDegree f fd) (T : Bt mg) (C : Cal P w K mg base 1 "_law_take" ["_law_bag_here", "_law_many"] spTake) : FnOk P w K mg base CX0 2 f fd ["_law_bag_here", "_law_n", "_law_d"] spOfDegree := by
  refine F.ok scOfDegree (fun vs H Q E h => ?_) (fun cdv A outer s H vs Q E hr h => ?_)
  · obtain ⟨b, n, d, rfl, _⟩ := h
    rfl
  · obtain ⟨b, n, d, rfl, hbag, hn, hn10, hd, k⟩ := h
    have hbig := sizeLine_big
    have nd := scOfDegree.nd
    refine ⟨_, pss_cons (ps_set (i := 3) nd rfl (.inl rfl) (pv 2))
      (pss_cons (ps_set (i := 4) nd rfl (.inl rfl) (pe_lst pa_nil))
      (pss_cons (ps_set (i := 5) nd rfl (.inl rfl) (pc C hr (by rfl) (pa_cons (pv 0) (pa_cons pe_int pa_nil))))
      (pss_cons (ps_for PassesOwn.never rfl (pi_range1 (by rfl) T.range (pa_cons (pe_op op_sub (pv 1) pe_int) pa_nil)) (pg_name (i := 6) nd rfl (.inl rfl))
        (pss_cons (ps_set (i := 7) nd rfl (.inr rfl) (pc C hr (by rfl) (pa_cons (pv 0) (pa_cons (pe_op op_add (pv 3) pe_int) pa_nil))))
        (C8.pss_cut (ps_if (pt_cmpR op_eq (pv 5) pe_int (nomark _))
          (pss_one (ps_set (i := 7) nd rfl (.inr rfl) (pe_callB (cr_maxK K rfl rfl) (by rfl) T.max bb_max (pa_cons
            (pe_lc (own := [("_law_x", 9)]) (g := gName 9) rfl nd (pi_tup (pe_tup (pa_cons pe_int (pa_cons pe_int (pa_cons pe_int (pa_cons pe_int (pa_cons pe_int pa_nil))))))) (blkOk_by (by kernel_rfl)) (fun _ _ _ _ _ => pg_name (i := 9) nd rfl (.inl rfl))
              (fun _ _ _ _ _ => by exact pts_one (pt_cmpR op_le (pv 9) (pv 7) (nomark _))) (fun _ _ _ _ _ => pv 9)) pa_nil)))) pss_nil)
        (pss_cons (ps_expr (pe_bm PySem.F.plainAttrs_list PySem.F.slot_list_append PySem.F.type_list_append mt_append (pv 4) (pa_cons (pv 7) pa_nil)))
        (pss_one (ps_set (i := 3) nd rfl (.inl rfl) (pe_op op_sub (pv 3) (pv 7))))))))
      (pss_cons (ps_expr (pe_bm PySem.F.plainAttrs_list PySem.F.slot_list_append PySem.F.type_list_append mt_append (pv 4) (pa_cons (pv 3) pa_nil)))
      (pss_cons (ps_set (i := 8) nd rfl (.inl rfl) (pc C hr (by rfl) (pa_cons (pv 0) (pa_cons (pv 1) pa_nil))))
      (pss_one (ps_ret (pe_callTy (call_tupleK K rfl) (by rfl) T.tuple bb_tuple (pa_cons (pe_op op_cat (pe_slice sl_list (pv 4) (po_some (pv 8)) po_none) (pe_slice sl_list (pv 4) po_none (po_some (pv 8)))) pa_nil))))))))), ?_⟩
    refine ⟨_, rfl, Nat.zero_le _, fun l hl => ?_⟩
    have s0 := Same.fresh (o := .lst []) hl
    have nlb : l ≠ b := fun e => by
      obtain ⟨_, _, hb, _⟩ := hbag
      rw [e, hb] at hl
      cases hl
    refine ⟨_, rfl, b, 3, rfl, hbag.mono s0, by decide, by decide, fun H1 fk but1 bag1 hfk => ?_⟩
    have but01 : But b H H1 := (But.of s0).trans but1
    have hl1 : H1 l = some (.lst []) := but1 _ _ upd_same nlb
    have en : ((n : Int) - 1).toNat = n - 1 := by omega
    refine ⟨_, rfl, _, _, rfl, rfl, _, rfl, (by omega), (by omega), for_it (walk_range (lo := 0) (n := ((n : Int) - 1).toNat)) (fun i σ H' => ∃ (ex : List Nat) (left : Nat) (a6 a7 a8 a9 : Option V), σ = [some (.ref b), some (.int (n : Nat)), some (.int (d : Nat)), some (.int (left : Nat)), some (.ref l), some (.int (fk : Nat)), a6, a7, a8, a9] ∧
        But b H H' ∧ BagAt H' b ∧ H' l = some (.lst (pvs ex)) ∧ ex.length = i ∧ ex.sum + left = d)
      ⟨[], d, none, none, none, none, rfl, but01, bag1, hl1, rfl, by simp⟩ (fun _ _ _ _ _ => trivial) ?_ ?_⟩
    · rintro i v σ Ho H2 hi ⟨ex, left, a6, a7, a8, a9, rfl, but2, bag2, hl2, hex, hsum⟩ ⟨rfl, hv⟩
      obtain rfl : v = V.int (i : Nat) := hv.trans (z0 i)
      have e1 : ((left : Int) + 1) = ((left + 1 : Nat) : Int) := by omega
      refine ⟨_, rfl, _, rfl, _, _, rfl, rfl, b, left + 1, (by show [V.ref b, V.int ((left : Int) + 1)] = _; rw [e1]), bag2, by omega, by omega, fun H3 e but3 bag3 he => ?_⟩
      have but23 := but2.trans but3
      have hl3 := but3 _ _ hl2 nlb
      refine ⟨fun σ H' => ∃ e' : Nat, e' ≤ left ∧ σ = [some (.ref b), some (.int (n : Nat)), some (.int (d : Nat)), some (.int (left : Nat)), some (.ref l), some (.int (fk : Nat)), some (.int (i : Nat)), some (.int (e' : Nat)), a8, a9] ∧ Same H3 H', ?_, ?_⟩
      · refine ⟨_, rfl, rfl, _, rfl, ?_⟩
        refine ite2 (fun hc => ?_) (fun hc => ⟨e, by omega, rfl, Same.refl _⟩)
        refine ⟨by decide, fun tt htt => ⟨tt, rfl, ⟨_, SqT.of upd_same⟩, fun D hD => ?_⟩⟩
        have sT := Same.fresh (o := .tup [V.int 0, V.int 1, V.int 3, V.int 7, V.int 15]) htt
        refine lc_data (walk_tup (K := K) (a := tt) (xs := [V.int 0, V.int 1, V.int 3, V.int 7, V.int 15])) [(0 : Int), 1, 3, 7, 15] (fun x => decide (x ≤ (e : Int))) id (fun _ v (b : Int) => v = V.int b) rfl (by decide) hD (fun _ _ _ _ _ h => h) (fun H' s' => SqT.of (s' _ _ upd_same)) ?_ ?_
        · rintro j x Ho4 H4 y hy s4 ⟨rfl, hx⟩ Z N hZ hN
          have hx' : ([(0 : Int), 1, 3, 7, 15].map V.int)[j]? = some x := hx
          rw [List.getElem?_map, hy] at hx'
          obtain rfl : V.int y = x := Option.some.inj hx'
          refine ⟨rfl, _, rfl, _, rfl, _, _, rfl, rfl, _, rfl, ?_⟩
          refine ite2 (fun hf => ?_) (fun hf => ?_)
          · exact ⟨_, rfl, hZ _ _ hf (Same.refl _) rfl⟩
          · exact hN _ (by simpa using hf) (Same.refl _)
        · intro H4 ys s4 hD4 hys
          rw [List.map_id] at hys
          have ey := prs_intI hys
          subst ey
          refine ⟨D, _, rfl, SqL.of hD4, ?_, fun m hm hle => ?_⟩
          · rw [List.filter_cons_of_pos (by simp)]
            simp
          · have hm1 := (List.mem_filter.mp hm)
            have hme : m ≤ (e : Int) := of_decide_eq_true hm1.2
            have hm0 : 0 ≤ m := by
              have : ∀ z ∈ [(0 : Int), 1, 3, 7, 15], 0 ≤ z := by decide
              exact this m hm1.1
            obtain ⟨m', rfl⟩ := Int.eq_ofNat_of_zero_le hm0
            exact ⟨m', by omega, rfl, sT.trans s4⟩
      · rintro σ H4 ⟨e', he', rfl, s4⟩
        have hl4 := s4 _ _ hl3
        refine ⟨_, rfl, .inl ⟨rfl, _, SqL.of hl4⟩, _, rfl, l, _, _, rfl, rfl, hl4, (by rw [pvs_len]; omega), ?_⟩
        refine ⟨_, rfl, _, rfl, _, _, rfl, rfl, ?_⟩
        have e2 : ((left : Int) - (e' : Int)) = ((left - e' : Nat) : Int) := by omega
        refine ⟨ex ++ [e'], left - e', some (.int (i : Nat)), some (.int (e' : Nat)), a8, a9, (by show [_, _, _, some (V.int ((left : Int) - (e' : Int))), _, _, _, _, _, _] = _; rw [e2]), fun x o h nx => ?_, ?_, ?_, ?_, ?_⟩
        · have hxl : x ≠ l := ne_of_none h hl
          rw [upd_ne hxl]
          exact s4 _ _ (but23 _ _ h nx)
        · obtain ⟨c, m, h1, h2⟩ := bag3.mono s4
          exact ⟨c, m, by rw [upd_ne nlb.symm]; exact h1, h2⟩
        · rw [upd_same, pvs_app]
          rfl
        · rw [List.length_append, hex]
          rfl
        · rw [List.sum_append]
          simp only [List.sum_cons, List.sum_nil]
          omega
    · rintro σ H2 ⟨ex, left, a6, a7, a8, a9, rfl, but2, bag2, hl2, hex, hsum⟩
      rw [en] at hex
      refine ⟨_, rfl, .inl ⟨rfl, _, SqL.of hl2⟩, _, rfl, l, _, _, rfl, rfl, hl2, (by rw [pvs_len]; omega), ?_⟩
      have el : pvs ex ++ [V.int (left : Nat)] = pvs (ex ++ [left]) := by
        rw [pvs_app]
        rfl
      rw [el]
      have bag3 : BagAt (upd H2 l (.lst (pvs (ex ++ [left])))) b := by
        obtain ⟨c, m, h1, h2⟩ := bag2
        exact ⟨c, m, by rw [upd_ne nlb.symm]; exact h1, h2⟩
      have but3 : But b H (upd H2 l (.lst (pvs (ex ++ [left])))) := fun x o h nx => by
        rw [upd_ne (ne_of_none h hl)]
        exact but2 _ _ h nx
      have hlen : (ex ++ [left]).length = n := by
        rw [List.length_append, hex, List.length_singleton]
        omega
      have hsm : (ex ++ [left]).sum = d := by
        rw [List.sum_append]
        simp only [List.sum_cons, List.sum_nil]
        omega
      refine ⟨_, rfl, _, rfl, b, n, rfl, bag3, hn, by omega, fun H3 r but4 bag4 hr4 => ?_⟩
      have hl3 : H3 l = some (.lst (pvs (ex ++ [left]))) := but4 _ _ upd_same nlb
      refine ⟨_, rfl, _, rfl, _, rfl, l, _, rfl, SqL.of hl3, fun q1 hq1 => ?_⟩
      rw [cut_from _ _ (by rw [pvs_len, hlen]; omega), pvs_drop]
      have sq1 := Same.fresh (o := .lst (pvs ((ex ++ [left]).drop r))) hq1
      refine ⟨_, rfl, _, rfl, _, rfl, l, _, rfl, SqL.of (sq1 _ _ hl3), fun q2 hq2 => ?_⟩
      rw [cut_to _ _ (by rw [pvs_len, hlen]; omega), pvs_take]
      have sq2 := Same.fresh (o := .lst (pvs ((ex ++ [left]).take r))) hq2
      refine ⟨q1, q2, _, _, rfl, rfl, sq2 _ _ upd_same, upd_same, (by rw [pvs_len, pvs_len, List.length_drop, List.length_take]; omega), fun q3 hq3 => ?_⟩
      rw [← pvs_app]
      have sq3 := Same.fresh (o := .lst (pvs ((ex ++ [left]).drop r ++ (ex ++ [left]).take r))) hq3
      refine ⟨q3, _, rfl, .inl ⟨SqL.of upd_same, fun q4 hq4 => ?_⟩⟩
      have sq := ((sq1.trans sq2).trans sq3).trans (Same.fresh (o := .tup (pvs ((ex ++ [left]).drop r ++ (ex ++ [left]).take r))) hq4)
      refine k _ _ ((ex ++ [left]).drop r ++ (ex ++ [left]).take r) ((but3.trans but4).trans (But.of sq)) (bag4.mono sq) ⟨q4, rfl, upd_same⟩ ?_ ?_
      · rw [List.length_append, List.length_drop, List.length_take, hlen]
        omega
      · have h := congrArg List.sum (List.take_append_drop r (ex ++ [left]))
        rw [List.sum_append, hsm] at h
        rw [List.sum_append]
        omega
end
end Rz
-- part W16
set_option Elab.async false
set_option linter.all false
set_option maxRecDepth 100000
set_option maxHeartbeats 4000000
namespace Rz
open PySem L2
/-- products of n letters, of degree d -/
def Deg (n d : Nat) (ps : List (List Nat)) : Prop := ∀ p ∈ ps, p.length = n ∧ p.sum = d
theorem Deg.ne {n d : Nat} {ps : List (List Nat)} (h : Deg n d ps) (hn : 1 ≤ n) : ∀ p ∈ ps, p ≠ [] := fun p hp e => by
  have := (h p hp).1
  rw [e] at this
  simp at this
  omega
theorem oddOf_mem {l : List (List Nat)} {z : List Nat} (h : z ∈ oddOf l) : z ∈ l := by
  have := (mem_oddOf z l).mp h
  exact List.count_pos_iff.mp (by omega)
theorem toggle_len' (x : List Nat) : ∀ l : List (List Nat), (toggle x l).length ≤ l.length + 1
  | [] => by simp [toggle]
  | y :: l => by
    unfold toggle
    split
    · simp
      omega
    · split
      · simp
      · have := toggle_len' x l
        simp
        omega
theorem oddOf_len' : ∀ l : List (List Nat), (oddOf l).length ≤ l.length
  | [] => Nat.le_refl _
  | x :: l => by
    have h1 := toggle_len' x (oddOf l)
    have h2 := oddOf_len' l
    show (toggle x (oddOf l)).length ≤ l.length + 1
    omega
theorem Deg.odd {n d : Nat} {ps : List (List Nat)} (h : Deg n d ps) : Deg n d (oddOf ps) := fun p hp => h p (oddOf_mem hp)
section
variable {P : Program} {w : World} {K : PySem.W.Frag} {mg : Str → Option Value} {base : Heap}
/-! ### _law_sum_of -/
def spSumOf : Sp := fun vs H Q _ => ∃ (b : Addr) (n d m : Nat), vs = [.ref b, .int (n : Nat), .int (d : Nat), .int (m : Nat)] ∧ BagAt H b ∧ 1 ≤ n ∧ n ≤ 10 ∧ d ≤ 900 ∧ m ≤ 10 ∧ ∀ H' v ps, But b H H' → BagAt H' b → IsS H' v ps → Srt ps → Deg n d ps → ps.length ≤ m → Q v H'
theorem scSumOf : FnScope ["_law_bag_here", "_law_n", "_law_d", "_law_many", "_law_k"] ["_law_bag_here", "_law_n", "_law_d", "_law_many"] (defScope sSumOf) := ⟨rfl, rfl, rfl, by decide +kernel, rfl, by decide +kernel, by decide +kernel⟩
theorem ok_sumOf {f : Addr} {fd : FuncData} (F : Fun K "_law_sum_of" "_law_sum_of" sSumOf f fd) (T : Bt mg) (C : Cal P w K mg base 1 "_law_take" ["_law_bag_here", "_law_many"] spTake) (CD : Cal P w K mg base 2 "_law_of_degree" ["_law_bag_here", "_law_n", "_law_d"] spOfDegree) (CO : Cal P w K mg base 1 "_law_odd" ["_law_things"] spSop) :
    FnOk P w K mg base CX0 3 f fd ["_law_bag_here", "_law_n", "_law_d", "_law_many"] spSumOf := by
  refine F.ok scSumOf (fun vs H Q E h => ?_) (fun cdv A outer s H vs Q E hr h => ?_)
  · obtain ⟨b, n, d, m, rfl, _⟩ := h
    rfl
  · obtain ⟨b, n, d, m, rfl, hbag, hn, hn10, hd, hm, k⟩ := h
    have hbig := sizeLine_big
    have nd := scSumOf.nd
    refine ⟨_, pss_one (ps_ret (pc CO (hr.mono (by decide)) (by rfl) (pa_cons (pe_lc (own := [("_law_k", 4)]) (g := gName 4) (tt := tYes) rfl nd (pi_range1 (by rfl) T.range (pa_cons (pc C (hr.mono (by decide)) (by rfl) (pa_cons (pv 0) (pa_cons (pe_op op_add (pv 3) pe_int) pa_nil))) pa_nil)) (blkOk_by (by kernel_rfl)) (fun _ _ _ _ _ => pg_name (i := 4) nd rfl (.inl rfl)) (fun _ _ _ _ _ => pts_nil)
      (fun _ _ _ _ _ => by exact pc CD hr (by rfl) (pa_cons (pv 0) (pa_cons (pv 1) (pa_cons (pv 2) pa_nil))))) pa_nil))), ?_⟩
    have e1 : ((m : Int) + 1) = ((m + 1 : Nat) : Int) := by omega
    refine ⟨_, rfl, _, rfl, _, _, rfl, rfl, b, m + 1, (by show [V.ref b, V.int ((m : Int) + 1)] = _; rw [e1]), hbag, by omega, by omega, fun H1 r but1 bag1 hr1 => ?_⟩
    refine ⟨_, rfl, by omega, by omega, fun D hD => ?_⟩
    have nDb : D ≠ b := fun e => by
      obtain ⟨_, _, hb, _⟩ := bag1
      rw [e, hb] at hD
      cases hD
    have nD0 : ∀ x o, H x = some o → x ≠ D := fun x o h e => by
      by_cases hx : x = b
      · exact nDb (e.symm.trans hx)
      · have := but1 _ _ h hx
        rw [e, hD] at this
        cases this
    refine lc_it (walk_range (lo := 0) (n := ((r : Nat) : Int).toNat)) (fun i H' => ∃ (ys : List V) (ps : List (List Nat)), But b H H' ∧ BagAt H' b ∧ H' D = some (.lst ys) ∧ Paired (IsP H') ys ps ∧ Deg n d ps ∧ ys.length = i)
      ⟨[], [], but1.trans (But.of (Same.fresh hD)), bag1.mono (Same.fresh hD), upd_same, .nil, fun p hp => absurd hp (by simp), rfl⟩ (fun _ _ _ _ => trivial) ?_ ?_
    · rintro i x Ho H2 hi ⟨ys, ps, but2, bag2, hD2, pr, hdeg, hyl⟩ ⟨rfl, hx⟩
      refine ⟨rfl, _, rfl, _, rfl, _, rfl, b, n, d, rfl, bag2, hn, hn10, hd, fun H3 v p but3 bag3 hv hpl hps => ?_⟩
      have hD3 := but3 _ _ hD2 nDb
      refine ⟨ys, hD3, by omega, ys ++ [v], ps ++ [p], fun x o h nx => ?_, ?_, upd_same, ?_, fun q hq => ?_, ?_⟩
      · rw [upd_ne (nD0 _ _ h)]
        exact but3 _ _ (but2 _ _ h nx) nx
      · obtain ⟨c, m', h1, h2⟩ := bag3
        exact ⟨c, m', by rw [upd_ne nDb.symm]; exact h1, h2⟩
      · have t3 : Tups H2 H3 := but3.tups bag2
        have t4 : Tups H3 (upd H3 D (.lst (ys ++ [v]))) := Tups.put hD3 trivial
        exact Pd.app (Prs.mono (t3.trans t4) pr) (.cons (hv.mono t4) .nil)
      · rcases List.mem_append.mp hq with z | z
        · exact hdeg q z
        · rw [List.mem_singleton.mp z]
          exact ⟨hpl, hps⟩
      · rw [List.length_append, hyl]
        rfl
    · rintro H2 ⟨ys, ps, but2, bag2, hD2, pr, hdeg, hyl⟩
      have hl : ys.length = ps.length := pr.length
      have hrm : ys.length ≤ m := by
        rw [hyl]
        show r ≤ m
        omega
      refine ⟨D, ys, ps, rfl, hD2, pr, hdeg.ne hn, by omega, fun H3 v s3 hv => ?_⟩
      have := oddOf_len' ps
      exact k _ _ (oddOf ps) (but2.trans (But.of s3)) (bag2.mono s3) hv (srt_oddOf ps) hdeg.odd (by omega)
/-! ### _law_some -/
def spSome : Sp := fun vs H Q _ => ∃ (b : Addr) (n d : Nat), vs = [.ref b, .int (n : Nat), .int (d : Nat)] ∧ BagAt H b ∧ 1 ≤ n ∧ n ≤ 10 ∧ d ≤ 900 ∧ ∀ H' v ps, But b H H' → BagAt H' b → IsS H' v ps → Srt ps → Deg n d ps → ps.length ≤ 5 → Q v H'
theorem scSome : FnScope ["_law_bag_here", "_law_n", "_law_d", "_law_found", "_law_turn", "_law_e"] ["_law_bag_here", "_law_n", "_law_d"] (defScope sSome) := ⟨rfl, rfl, rfl, by decide +kernel, rfl, by decide +kernel, by decide +kernel⟩
theorem dbl_sum : ∀ p : List Nat, (dbl p).sum = 2 * p.sum + p.length
  | [] => rfl
  | e :: p => by
    show (2 * e + 1) + (dbl p).sum = 2 * (e + p.sum) + (p.length + 1)
    rw [dbl_sum p]
    omega
theorem ok_some {f : Addr} {fd : FuncData} (F : Fun K "_law_some" "_law_some" sSome f fd) (T : Bt mg) (C : Cal P w K mg base 1 "_law_take" ["_law_bag_here", "_law_many"] spTake) (CD : Cal P w K mg base 2 "_law_of_degree" ["_law_bag_here", "_law_n", "_law_d"] spOfDegree) (CO : Cal P w K mg base 1 "_law_odd" ["_law_things"] spSop)
    (CS : Cal P w K mg base 3 "_law_sum_of" ["_law_bag_here", "_law_n", "_law_d", "_law_many"] spSumOf) : FnOk P w K mg base CX0 4 f fd ["_law_bag_here", "_law_n", "_law_d"] spSome := by
  refine F.ok scSome (fun vs H Q E h => ?_) (fun cdv A outer s H vs Q E hr h => ?_)
  · obtain ⟨b, n, d, rfl, _⟩ := h
    rfl
  · obtain ⟨b, n, d, rfl, hbag, hn, hn10, hd, k⟩ := h
    have hbig := sizeLine_big
    have nd := scSome.nd
    refine ⟨_, pss_cons (ps_set (i := 3) nd rfl (.inl rfl) (pe_callTy call_list_of (by rfl) T.list bb_list (pa_cons (pc CS hr (by rfl) (pa_cons (pv 0) (pa_cons (pv 1) (pa_cons (pv 2) (pa_cons pe_int pa_nil))))) pa_nil)))
      (C8.pss_cut (ps_if (PW.pt (pw_and (pt_cmpR op_eq (pe_op op_mod (pe_op op_sub (pv 2) (pv 1)) pe_int) pe_int (nomark _)) (pw_and1 (pt_cmpR op_ge (pv 2) (pv 1) (nomark _)))))
        (pss_one (ps_for PassesOwn.never rfl (pi_range1 (by rfl) T.range (pa_cons (pc C (hr.mono (by decide)) (by rfl) (pa_cons (pv 0) (pa_cons pe_int pa_nil))) pa_nil)) (pg_name (i := 4) nd rfl (.inl rfl))
          (pss_one (ps_expr (pe_bm PySem.F.plainAttrs_list PySem.F.slot_list_append PySem.F.type_list_append mt_append (pv 3) (pa_cons (pe_callTy (call_tupleK K rfl) (by rfl) T.tuple bb_tuple (pa_cons
            (pe_lc (own := [("_law_e", 5)]) (g := gName 5) (tt := tYes) rfl nd (pi_tup (pc CD (hr.mono (by decide)) (by rfl) (pa_cons (pv 0) (pa_cons (pv 1) (pa_cons (pe_op op_fdivN (pe_op op_sub (pv 2) (pv 1)) pe_int) pa_nil))))) (blkOk_by (by kernel_rfl)) (fun _ _ _ _ _ => pg_name (i := 5) nd rfl (.inl rfl)) (fun _ _ _ _ _ => pts_nil)
              (fun _ _ _ _ _ => by exact pe_op op_add (pe_op op_mul pe_int (pv 5)) pe_int)) pa_nil)) pa_nil)))))) pss_nil)
      (pss_one (ps_ret (pc CO (hr.mono (by decide)) (by rfl) (pa_cons (pv 3) pa_nil))))), ?_⟩
    refine ⟨_, rfl, _, rfl, _, rfl, b, n, d, 3, rfl, hbag, hn, hn10, hd, by decide, fun H1 v ps but1 bag1 hv hsrt hdeg hpl => ?_⟩
    obtain ⟨t, xs, rfl, ht, pr⟩ := hv
    have hxl : xs.length = ps.length := pr.length
    refine ⟨t, xs, rfl, .inr (SqT.of ht), fun l hl => ?_⟩
    have sl := Same.fresh (o := .lst xs) hl
    have nlb : l ≠ b := fun e => by
      obtain ⟨_, _, hb, _⟩ := bag1
      rw [e, hb] at hl
      cases hl
    have nl0 : ∀ x o, H x = some o → x ≠ l := fun x o h e => by
      by_cases hx : x = b
      · exact nlb (e.symm.trans hx)
      · have := but1 _ _ h hx
        rw [e, hl] at this
        cases this
    refine ⟨fun σ H' => ∃ (ys : List V) (qs : List (List Nat)) (z : Option V), σ = [some (.ref b), some (.int (n : Nat)), some (.int (d : Nat)), some (.ref l), z, none] ∧ But b H H' ∧ BagAt H' b ∧ H' l = some (.lst ys) ∧ Paired (IsP H') ys qs ∧ Deg n d qs ∧ qs.length ≤ 5, ?_, ?_⟩
    · have done : ∃ (ys : List V) (qs : List (List Nat)) (z : Option V), [some (V.ref b), some (.int (n : Nat)), some (.int (d : Nat)), some (.ref l), none, none] = [some (V.ref b), some (.int (n : Nat)), some (.int (d : Nat)), some (.ref l), z, none] ∧ But b H (upd H1 l (.lst xs)) ∧ BagAt (upd H1 l (.lst xs)) b ∧ (upd H1 l (.lst xs)) l = some (.lst ys) ∧ Paired (IsP (upd H1 l (.lst xs))) ys qs ∧ Deg n d qs ∧ qs.length ≤ 5 :=
        ⟨xs, ps, none, rfl, but1.trans (But.of sl), bag1.mono sl, upd_same, Prs.mono (Tups.of sl) pr, hdeg, by omega⟩
      refine ⟨_, rfl, _, rfl, _, _, rfl, rfl, _, _, rfl, rfl, (by show (0 : Int) < 2; decide), rfl, _, rfl, ?_⟩
      refine ite2 (fun hc => ?_) (fun _ => iteF done)
      refine ⟨_, rfl, _, rfl, _, _, rfl, rfl, _, rfl, ?_⟩
      refine ite2 (fun hge => ?_) (fun _ => done)
      have hge' : n ≤ d := by have := of_decide_eq_true hge; omega
      have hpar : ((d : Int) - (n : Int)) % 2 = 0 := by
        have := of_decide_eq_true hc
        exact V.int.inj this
      refine ⟨_, rfl, b, 3, rfl, bag1.mono sl, by decide, by decide, fun H2 r but2 bag2 hr2 => ?_⟩
      have hl2 := but2 _ _ upd_same nlb
      have t2 : Tups H1 H2 := (Tups.of sl).trans (but2.tups (bag1.mono sl))
      refine ⟨_, rfl, by omega, by omega, for_it (walk_range (lo := 0) (n := ((r : Nat) : Int).toNat)) (fun i σ H' => ∃ (ys : List V) (qs : List (List Nat)) (z : Option V), σ = [some (.ref b), some (.int (n : Nat)), some (.int (d : Nat)), some (.ref l), z, none] ∧ But b H H' ∧ BagAt H' b ∧ H' l = some (.lst ys) ∧ Paired (IsP H') ys qs ∧ Deg n d qs ∧ qs.length ≤ 3 + i)
        ⟨xs, ps, none, rfl, (but1.trans (But.of sl)).trans but2, bag2, hl2, Prs.mono t2 pr, hdeg, by omega⟩ (fun _ _ _ _ _ => trivial) ?_ ?_⟩
      · rintro i v σ Ho H3 hi ⟨ys, qs, z, rfl, but3, bag3, hl3, pr3, hdeg3, hql⟩ ⟨rfl, hv⟩
        have hyl : ys.length = qs.length := pr3.length
        have hir : i < 3 := by
          have : i < r := hi
          omega
        have e2 : ((d : Int) - (n : Int)).fdiv 2 = (((d - n) / 2 : Nat) : Int) := by
          rw [show ((d : Int) - (n : Int)) = ((d - n : Nat) : Int) by omega]
          exact PySem.W.os_fdiv_nat (d - n) 2 (by decide)
        refine ⟨_, rfl, .inl ⟨rfl, _, SqL.of hl3⟩, ?_⟩
        refine ⟨_, rfl, _, rfl, _, rfl, _, rfl, _, _, rfl, rfl, _, _, rfl, rfl, ⟨by decide, by decide⟩, b, n, (d - n) / 2, (by show [V.ref b, V.int (n : Nat), V.int (((d : Int) - (n : Int)).fdiv 2)] = _; rw [e2]), bag3, hn, hn10, by omega, fun H4 v p but4 bag4 hv hpl2 hps => ?_⟩
        obtain ⟨tp, rfl, htp⟩ := hv
        have hl4 := but4 _ _ hl3 nlb
        have t34 := but4.tups bag3
        refine ⟨tp, rfl, ⟨_, SqT.of htp⟩, fun D hD => lc_data (walk_tup (K := K) (a := tp) (xs := pvs p)) p (fun _ => true) (fun e => 2 * e + 1) (fun _ v (b : Nat) => v = V.int b) (pvs_len p).symm (by rw [pvs_len]; omega) hD (fun _ _ _ _ _ h => h) (fun H' s' => SqT.of (s' _ _ htp)) ?_ ?_⟩
        · rintro j x Ho5 H5 e he s5 ⟨rfl, hx⟩ Z N hZ hN
          obtain ⟨e', he', rfl⟩ := pvs_get hx
          rw [he] at he'
          cases he'
          refine ⟨rfl, _, rfl, _, _, rfl, rfl, .inl ⟨by decide, by decide⟩, _, _, rfl, rfl, hZ _ _ rfl (Same.refl _) ?_⟩
          show V.int (2 * (e : Int) + 1) = V.int ((2 * e + 1 : Nat) : Int)
          congr 1
        · intro H5 zs s5 hD5 hzs
          rw [lcw] at hzs
          have ez := prs_int hzs
          subst ez
          refine ⟨D, _, rfl, .inl ⟨SqL.of hD5, fun q hq => ?_⟩⟩
          have sq := Same.fresh (o := .tup (pvs (p.map fun e => 2 * e + 1))) hq
          have s5q := s5.trans sq
          refine ⟨l, ys, _, rfl, rfl, s5q _ _ hl4, by omega, ?_⟩
          have t6 : Tups (upd H5 q (.tup (pvs (p.map fun e => 2 * e + 1)))) (upd (upd H5 q (.tup (pvs (p.map fun e => 2 * e + 1)))) l (.lst (ys ++ [.ref q]))) := Tups.put (s5q _ _ hl4) trivial
          refine ⟨ys ++ [.ref q], qs ++ [dbl p], _, rfl, fun x o h nx => ?_, ?_, upd_same, ?_, fun p' hp' => ?_, ?_⟩
          · rw [upd_ne (nl0 _ _ h)]
            exact s5q _ _ (but4 _ _ (but3 _ _ h nx) nx)
          · obtain ⟨c, m', h1, h2⟩ := bag4.mono s5q
            exact ⟨c, m', by rw [upd_ne nlb.symm]; exact h1, h2⟩
          · exact Pd.app (Prs.mono ((t34.trans (Tups.of s5q)).trans t6) pr3) (.cons ⟨q, rfl, t6 _ _ upd_same⟩ .nil)
          · rcases List.mem_append.mp hp' with z | z
            · exact hdeg3 p' z
            · rw [List.mem_singleton.mp z, dbl_sum, hps, hpl2]
              refine ⟨?_, by omega⟩
              unfold dbl
              rw [List.length_map]
              exact hpl2
          · rw [List.length_append, List.length_singleton]
            omega
      · rintro σ H3 ⟨ys, qs, z, rfl, but3, bag3, hl3, pr3, hdeg3, hql⟩
        refine ⟨ys, qs, z, rfl, but3, bag3, hl3, pr3, hdeg3, ?_⟩
        have : ((r : Nat) : Int).toNat = r := rfl
        omega
    · rintro σ H2 ⟨ys, qs, z, rfl, but2, bag2, hl2, pr2, hdeg2, hql⟩
      refine ⟨_, rfl, l, ys, qs, rfl, hl2, pr2, hdeg2.ne hn, by omega, fun H3 v s3 hv => ?_⟩
      have := oddOf_len' qs
      exact k _ _ (oddOf qs) (but2.trans (But.of s3)) (bag2.mono s3) hv (srt_oddOf qs) hdeg2.odd (by omega)
end
end Rz
-- part W17
set_option Elab.async false
set_option linter.all false
set_option maxRecDepth 100000
set_option maxHeartbeats 8000000
namespace Rz
open PySem L2
/-! ### data that is compared -/
theorem lay_ints : ∀ p : List Nat, PyData.canLayAll0 (p.map fun e => PyData.int ((e : Nat) : Int)) = true
  | [] => by rw [List.map_nil, PyData.canLayAll0]
  | e :: p => by
    rw [List.map_cons, PyData.canLayAll0, lay_ints p, PyData.canLay0]
    rfl
theorem lay_encP (p : List Nat) : (encP p).canLay0 = true := by
  unfold encP
  rw [PyData.canLay0]
  exact lay_ints p
theorem lay_all : ∀ ps : List (List Nat), PyData.canLayAll0 (ps.map encP) = true
  | [] => by rw [List.map_nil, PyData.canLayAll0]
  | p :: ps => by
    rw [List.map_cons, PyData.canLayAll0, lay_all ps, lay_encP]
    rfl
theorem dep_encP (p : List Nat) : (encP p).depth = 1 := by
  rw [encP_map, PyData.depth, PySem.W.depth_ints]
theorem dep_all : ∀ ps : List (List Nat), PyData.depthAll (ps.map encP) ≤ 1
  | [] => by rw [List.map_nil, PyData.depthAll]; decide
  | p :: ps => by
    have := dep_all ps
    rw [List.map_cons, PyData.depthAll, dep_encP]
    omega
def dS (ps : List (List Nat)) : PyData := .tuple (ps.map encP)
theorem shaped_dS (ps : List (List Nat)) : SeqAt.shaped (dS ps) = true := by
  unfold SeqAt.shaped dS
  rw [PyData.canLay0, lay_all, PyData.depth]
  have := dep_all ps
  rw [decide_eq_true (by omega)]
  rfl
theorem eqv_dS (ps : List (List Nat)) : PyData.eqv (dS ps) (dS ps) = true := SeqAt.eqv_refl _ (SeqAt.canLay_of_shaped (shaped_dS ps))
theorem dpAll_ps {K : PySem.W.Frag} {H : Hp} : ∀ {xs : List V} {ps : List (List Nat)}, Paired (IsP H) xs ps → DpAll K H xs (ps.map encP)
  | _, _, .nil => .nil
  | _, _, .cons r t => .cons (IsP.dp r) (dpAll_ps t)
theorem IsS.dp {K : PySem.W.Frag} {H : Hp} {x : V} {ps : List (List Nat)} (h : IsS H x ps) : Dp K H x (dS ps) := by
  obtain ⟨t, xs, rfl, ht, pr⟩ := h
  exact .tup (SqT.of ht) (dpAll_ps pr)
theorem hu64 {A : Around} {k : Nat} (hr : Room k A) : A.units + 64 < cLine := by have := hr.un; omega

/-! ### the law's mathematics -/
theorem half_sum : ∀ {p : List Nat}, allOdd p = true → 2 * (half p).sum + p.length = p.sum
  | [], _ => rfl
  | e :: p, h => by
    have h' : e % 2 = 1 ∧ allOdd p = true := by
      unfold allOdd at h ⊢
      simpa using h
    have := half_sum h'.2
    show 2 * (e / 2 + (half p).sum) + (p.length + 1) = e + p.sum
    omega
theorem deg_halved {n d : Nat} {s : List (List Nat)} (h : Deg n d s) {p : List Nat} (hp : p ∈ halvedM s) : p.length = n ∧ 2 * p.sum + n = d := by
  have h1 := h _ (mem_halved.mp hp)
  have h2 := half_sum (allOdd_dbl p)
  rw [half_dbl] at h2
  have h3 : (dbl p).length = p.length := by
    unfold dbl
    rw [List.length_map]
  omega
theorem halved_len (s : List (List Nat)) : (halvedM s).length ≤ s.length := by
  unfold halvedM
  rw [List.length_map]
  exact List.length_filter_le _ _
/-- a halved raised sum is taken off whole -/
theorem judged_zero {r q d : Nat} {s : List (List Nat)} (hr : r < 4) (hq : q < tP.getD r 0) (hq0 : 0 < q) (hd : d < tD.getD r 0) (hs : Deg (r + 1) d s) (hne : raisedM (halvedM s) q ≠ []) :
    ∃ d', (∀ z ∈ raisedM (halvedM s) q, z.length = r + 1 ∧ z.sum = d') ∧ roomM (r + 1) d' = true ∧ leftM (spaceM (r + 1) d') (numX (allP (r + 1) d') (raisedM (halvedM s) q)) = 0 := by
  obtain ⟨z, hz⟩ := List.exists_mem_of_ne_nil _ hne
  obtain ⟨p, hp, _⟩ := mem_raised hz
  have hp1 := deg_halved hs hp
  have hall : ∀ p' ∈ halvedM s, p'.length = r + 1 ∧ p'.sum = p.sum := fun p' hp' => by
    have := deg_halved hs hp'
    omega
  have htd : tD.getD r 0 ≤ 13 := by
    have : ∀ r < 4, tD.getD r 0 ≤ 13 := by decide
    exact this r hr
  obtain ⟨q', rfl⟩ : ∃ q', q = q' + 1 := ⟨q - 1, by omega⟩
  have hc := chk3 r hr q' (by omega) p.sum (by omega) (by omega)
  refine ⟨p.sum + (q' + 1), fun z hz => ?_, hc.1, left_raised fun p' hp' => ?_⟩
  · obtain ⟨p', hp', hw⟩ := mem_raised hz
    have h1 := way_len p' _ z hw
    have h2 := hall p' hp'
    omega
  · exact hc.2 p' ((mem_allP (by omega)).mpr (hall p' hp'))
theorem chk4 : ∀ r < 5, ∀ l < tL.getD r 0, rowsM (r + 1) l ≤ rowsM (r + 1) (2 * l + (r + 1))
  | 0, _, l, hl => chk4a l hl
  | 1, _, l, hl => chk4b l hl
  | 2, _, l, hl => chk4c l hl
  | 3, _, l, hl => chk4d l hl
  | 4, _, l, hl => chk4e l hl
  | r + 5, h, _, _ => absurd h (by omega)
/-- the sizes at the law's own raisings -/
theorem fine_law {r d k : Nat} {s : List (List Nat)} (hr : r < 4) (hk : k ≤ 2 * (tP.getD r 0 - 1) + 1) (hd : d ≤ 12) (hl : s.length ≤ 5) (hs : ∀ p ∈ s, p.length = r + 1 ∧ p.sum ≤ d) : Fine k s := by
  refine ⟨by omega, fun p hp => ?_⟩
  obtain ⟨h1, h2⟩ := hs p hp
  have hall : ∀ r < 4, (2 * (tP.getD r 0 - 1) + 1 + 1) ^ (r + 1) ≤ 100000 := by decide
  refine ⟨fun e => by rw [e] at h1; simp at h1, by omega, by omega, ?_⟩
  rw [h1]
  exact Nat.le_trans (Nat.pow_le_pow_left (by omega) _) (hall r hr)
theorem atI_tab {L : List Nat} {r : Nat} (h : r < L.length) {i : Int} (hi : i = (r : Nat)) : atI (L.map fun x => V.int ((x : Nat) : Int)) i = some (V.int ((L.getD r 0 : Nat) : Int)) := by
  subst hi
  refine atI_nat ?_
  rw [List.getElem?_map, List.getD_eq_getElem?_getD, List.getElem?_eq_getElem h]
  rfl
/-- t[lo:hi] of a tuple: some tuple of the cut's items -/
def rSlC (K : PySem.W.Frag) : V → Option Int → Option Int → Hp → VK → Prop := fun x lo hi H Q => ∃ (a : Addr) (xs : List V), x = .ref a ∧ H a = some (.tup xs) ∧ ∀ H' p, Same H H' → H' p = some (.tup (cutV xs lo hi)) → Q (.ref p) H'
section
variable {X : Cx}
theorem sl_tupC : SlR X (rSlC X.K) := by
  intro pins s σ H x v vl vu lo hi sl Q I rx hs pl pu h
  obtain ⟨a, xs, rfl, ha, q⟩ := h
  refine sl_tupA pins s σ H _ v vl vu lo hi sl Q I rx hs pl pu ⟨a, xs, rfl, SqT.of ha, fun hw => ?_, fun _ p hp => q _ p (Same.fresh hp) upd_same⟩
  refine q H a (Same.refl _) ?_
  have e : cutV xs lo hi = xs := by
    unfold cutV
    rw [hw.1, hw.2]
    show (xs.drop 0).take (xs.length - 0) = xs
    rw [List.drop_zero, Nat.sub_zero, List.take_length]
  rw [e]
  exact ha
end
theorem same_but {H1 H H' : Hp} {b : Addr} (s : Same H1 H) (h0 : H1 b = none) (c : But b H H') : Same H1 H' := fun x o h => c _ _ (s _ _ h) (ne_of_none h h0)
theorem Srt.take {l : List (List Nat)} (h : Srt l) (n : Nat) : Srt (l.take n) := List.Pairwise.sublist (List.take_sublist n l) h
section
variable {P : Program} {w : World} {K : PySem.W.Frag} {mg : Str → Option Value} {base : Heap}
def spLaw (K : PySem.W.Frag) : Sp := fun vs H Q _ => ∃ (a : Addr) (ns : List Int), vs = [.ref a] ∧ SqL K H a (ns.map V.int) ∧ ns.length ≤ 63 ∧ ∀ H', Q (.bl true) H'
theorem scLaw : FnScope ["_law_script", "_law_k", "_law_bag_here", "_law_n", "_law_part", "_law_d", "_law_some_here", "_law_up", "_law_m", "_law_less"] ["_law_script"] (defScope sLaw) := ⟨rfl, rfl, rfl, by decide +kernel, rfl, by decide +kernel, by decide +kernel⟩
/-- the limit of a sum's products -/
def lim (r : Nat) : Nat := if 3 < r + 1 then 8 else 40
theorem lim_le (r : Nat) : lim r ≤ 40 := by
  unfold lim
  split <;> omega
theorem lim_at (r : Nat) : atI ([V.int 40, V.int 8]) (if decide ((3 : Int) < 1 + (r : Int)) = true then 1 else 0) = some (V.int ((lim r : Nat) : Int)) := by
  unfold lim
  by_cases h : 3 < r + 1
  · rw [if_pos (decide_eq_true (by omega)), if_pos h]
    rfl
  · rw [if_neg (by rw [decide_eq_false (by omega)]; decide), if_neg h]
    rfl
theorem ok_law {f : Addr} {fd : FuncData} (F : Fun K "law" "law" sLaw f fd) (T : Bt mg) (CB : Cal P w K mg base 1 "_law_bag" ["_law_script", "_law_at"] (spBag K)) (CT : Cal P w K mg base 1 "_law_take" ["_law_bag_here", "_law_many"] spTake)
    (CS : Cal P w K mg base 4 "_law_some" ["_law_bag_here", "_law_n", "_law_d"] spSome) (CR : Cal P w K mg base 2 "_law_raised" ["_law_some_here", "_law_k"] spRaised) (CH : Cal P w K mg base 1 "halved" ["some"] spHalved)
    (CJ : Cal P w K mg base 7 "judged" ["n", "some"] spJudged) (CC : Cal P w K mg base 8 "rows_counted" ["n", "d"] spRows) : FnOk P w K mg base CX0 9 f fd ["_law_script"] (spLaw K) := by
  refine F.ok scLaw (fun vs H Q E h => ?_) (fun cdv A outer s H vs Q E hr h => ?_)
  · obtain ⟨a, ns, rfl, _⟩ := h
    rfl
  · obtain ⟨a, ns, rfl, hS, hlen, k⟩ := h
    have hbig := sizeLine_big
    have nd := scLaw.nd
    have hr1 : Room 1 _ := hr.mono (by decide)
    have hr2 : Room 2 _ := hr.mono (by decide)
    refine ⟨_, pss_cons (ps_for PassesOwn.never rfl (pi_range1 (by rfl) T.range (pa_cons (pe_op op_add (pe_callB (call_min2 rfl) (by rfl) T.min bb_min (pa_cons pe_int (pa_cons (pe_callB call_len_seq (by rfl) T.len bb_len (pa_cons (pv 0) pa_nil)) pa_nil))) pe_int) pa_nil)) (pg_name (i := 1) nd rfl (.inl rfl))
        (pss_cons (ps_set (i := 2) nd rfl (.inl rfl) (pc CB hr1 (by rfl) (pa_cons (pv 0) (pa_cons (pv 1) pa_nil))))
        (pss_cons (ps_set (i := 3) nd rfl (.inl rfl) (pe_op op_add pe_int (pc CT hr1 (by rfl) (pa_cons (pv 2) (pa_cons pe_int pa_nil)))))
        (pss_cons (ps_set (i := 4) nd rfl (.inl rfl) (pc CT hr1 (by rfl) (pa_cons (pv 2) (pa_cons (pe_ix ix_list (pe_lst (pa_cons pe_int (pa_cons pe_int (pa_cons pe_int (pa_cons pe_int pa_nil))))) (pe_op op_sub (pv 3) pe_int) (fun _ _ => rfl)) pa_nil))))
        (pss_cons (ps_set (i := 5) nd rfl (.inl rfl) (pc CT hr1 (by rfl) (pa_cons (pv 2) (pa_cons (pe_ix ix_list (pe_lst (pa_cons pe_int (pa_cons pe_int (pa_cons pe_int (pa_cons pe_int pa_nil))))) (pe_op op_sub (pv 3) pe_int) (fun _ _ => rfl)) pa_nil))))
        (pss_cons (ps_set (i := 6) nd rfl (.inl rfl) (pc CS (hr.mono (by decide)) (by rfl) (pa_cons (pv 2) (pa_cons (pv 3) (pa_cons (pv 5) pa_nil)))))
        (pss_cons (ps_if (pt_cmpR (op_neD (hu64 hr)) (pc CH hr1 (by rfl) (pa_cons (pe_slice sl_tupC (pc CR hr2 (by rfl) (pa_cons (pv 6) (pa_cons (pe_op op_add (pe_op op_mul pe_int (pv 4)) pe_int) pa_nil))) po_none (po_some (pe_ix ix_list (pe_lst (pa_cons pe_int (pa_cons pe_int pa_nil))) (pe_callTy call_int1 (by rfl) T.int bb_int (pa_cons (pe_cmpR op_gt (pv 3) pe_int (nomark _)) pa_nil)) (fun _ _ => rfl)))) pa_nil)) (pe_tup pa_nil) (nomark _)) (pss_one (ps_ret pe_bl)) pss_nil)
        (pss_cons (ps_set (i := 7) nd rfl (.inl rfl) (pc CR hr2 (by rfl) (pa_cons (pv 6) (pa_cons (pe_op op_mul pe_int (pv 4)) pa_nil))))
        (C8.pss_cut (ps_if (PW.pt (pw_and (pt_cmpR op_le (pe_callB call_len_seq (by rfl) T.len bb_len (pa_cons (pv 7) pa_nil)) (pe_ix ix_list (pe_lst (pa_cons pe_int (pa_cons pe_int pa_nil))) (pe_callTy call_int1 (by rfl) T.int bb_int (pa_cons (pe_cmpR op_gt (pv 3) pe_int (nomark _)) pa_nil)) (fun _ _ => rfl)) (nomark _))
          (pw_and1 (pt_cmpR (op_neD (hu64 hr)) (pc CH hr1 (by rfl) (pa_cons (pv 7) pa_nil)) (pc CR hr2 (by rfl) (pa_cons (pc CH hr1 (by rfl) (pa_cons (pv 6) pa_nil)) (pa_cons (pv 4) pa_nil))) (nomark _))))) (pss_one (ps_ret pe_bl)) pss_nil)
        (C8.pss_cut (ps_if (PW.pt (pw_and (pt_cmpR op_gt (pv 4) pe_int (nomark _)) (pw_and (pt_cmpR op_le (pe_callB call_len_seq (by rfl) T.len bb_len (pa_cons (pv 7) pa_nil)) (pe_ix ix_list (pe_lst (pa_cons pe_int (pa_cons pe_int pa_nil))) (pe_callTy call_int1 (by rfl) T.int bb_int (pa_cons (pe_cmpR op_gt (pv 3) pe_int (nomark _)) pa_nil)) (fun _ _ => rfl)) (nomark _))
          (pw_and1 (pt_cmpR op_ne (pe_ix ix_tup (pc CJ (hr.mono (by decide)) (by rfl) (pa_cons (pv 3) (pa_cons (pc CH hr1 (by rfl) (pa_cons (pv 7) pa_nil)) pa_nil))) pe_int (fun _ _ => rfl)) pe_str (nomark _)))))) (pss_one (ps_ret pe_bl)) pss_nil)
        (pss_cons (ps_set (i := 8) nd rfl (.inl rfl) (pe_op op_add pe_int (pc CT hr1 (by rfl) (pa_cons (pv 2) (pa_cons pe_int pa_nil)))))
        (pss_cons (ps_set (i := 9) nd rfl (.inl rfl) (pc CT hr1 (by rfl) (pa_cons (pv 2) (pa_cons (pe_ix ix_list (pe_lst (pa_cons pe_int (pa_cons pe_int (pa_cons pe_int (pa_cons pe_int (pa_cons pe_int pa_nil)))))) (pe_op op_sub (pv 8) pe_int) (fun _ _ => rfl)) pa_nil))))
        (pss_one (ps_if (pt_cmpR op_gt (pc CC hr (by rfl) (pa_cons (pv 8) (pa_cons (pv 9) pa_nil))) (pc CC hr (by rfl) (pa_cons (pv 8) (pa_cons (pe_op op_add (pe_op op_mul pe_int (pv 9)) (pv 8)) pa_nil))) (nomark _)) (pss_one (ps_ret pe_bl)) pss_nil))))))))))))))
      (pss_one (ps_ret pe_bl)), ?_⟩
    have hll : (ns.map V.int).length = ns.length := List.length_map _
    have emin : (if (((ns.map V.int).length : Int) < 2) then ((ns.map V.int).length : Int) else 2) + 1 = ((min 2 ns.length + 1 : Nat) : Int) := by
      rw [hll]
      split <;> omega
    refine ⟨_, rfl, a, _, rfl, .inl hS, 2, _, rfl, _, _, rfl, rfl, (if (((ns.map V.int).length : Int) < 2) then ((ns.map V.int).length : Int) else 2) + 1, rfl, by rw [emin]; omega, by rw [emin]; omega, ?_⟩
    rw [emin]
    refine for_it (walk_range (lo := 0) (n := ((min 2 ns.length + 1 : Nat) : Int).toNat)) (fun i σ H' => Same H H' ∧ ∃ a1 a2 a3 a4 a5 a6 a7 a8 a9, σ = [some (.ref a), a1, a2, a3, a4, a5, a6, a7, a8, a9])
      ⟨Same.refl _, none, none, none, none, none, none, none, none, none, rfl⟩ (fun _ _ _ _ _ => trivial) ?_ ?_
    · rintro i v σ Ho H1 hi ⟨s1, a1, a2, a3, a4, a5, a6, a7, a8, a9, rfl⟩ ⟨rfl, hv⟩
      obtain rfl : v = V.int (i : Nat) := hv.trans (z0 i)
      have hi2 : i ≤ 2 := by
        have : i < min 2 ns.length + 1 := hi
        omega
      -- the bag
      refine ⟨_, rfl, _, rfl, a, ns, i, rfl, s1.seq hS, hlen, hi2, fun H2 b s2 hb0 bag2 => ?_⟩
      -- n
      refine ⟨_, rfl, b, 4, rfl, bag2, by decide, by decide, fun H3 r but3 bag3 hr3 => ⟨_, _, rfl, rfl, ?_⟩⟩
      have t3 : Same H1 H3 := same_but s2 hb0 but3
      have en : (1 + (r : Int)) = ((r + 1 : Nat) : Int) := by omega
      have ei : (1 + (r : Int)) - 1 = ((r : Nat) : Int) := by omega
      -- part
      refine ⟨_, rfl, by decide, fun l1 hl1 => ⟨_, rfl, _, _, rfl, rfl, l1, tP.map (fun x => V.int ((x : Nat) : Int)), _, _, rfl, rfl, SqL.of upd_same, atI_tab (L := tP) hr3 ei, ?_⟩⟩
      have hP : ∀ r < 4, 1 ≤ tP.getD r 0 ∧ tP.getD r 0 ≤ 8 := by decide
      have hD : ∀ r < 4, 1 ≤ tD.getD r 0 ∧ tD.getD r 0 ≤ 13 := by decide
      refine ⟨b, tP.getD r 0, rfl, bag3.mono (Same.fresh hl1), (hP r hr3).1, by have := (hP r hr3).2; omega, fun H4 q but4 bag4 hq => ?_⟩
      have t4 : Same H1 H4 := same_but (t3.trans (Same.fresh hl1)) hb0 but4
      -- d
      refine ⟨_, rfl, by decide, fun l2 hl2 => ⟨_, rfl, _, _, rfl, rfl, l2, tD.map (fun x => V.int ((x : Nat) : Int)), _, _, rfl, rfl, SqL.of upd_same, atI_tab (L := tD) hr3 ei, ?_⟩⟩
      refine ⟨b, tD.getD r 0, rfl, bag4.mono (Same.fresh hl2), (hD r hr3).1, by have := (hD r hr3).2; omega, fun H5 d but5 bag5 hd => ?_⟩
      have t5 : Same H1 H5 := same_but (t4.trans (Same.fresh hl2)) hb0 but5
      have hd12 : d ≤ 12 := by have := (hD r hr3).2; omega
      -- some
      refine ⟨_, rfl, _, rfl, _, rfl, b, r + 1, d, (by show [V.ref b, V.int (1 + (r : Int)), V.int (d : Nat)] = _; rw [en]), bag5, by omega, by omega, by omega, fun H6 sv ps but6 bag6 hsv hsrt hdeg hpl => ?_⟩
      have t6 : Same H1 H6 := same_but t5 hb0 but6
      have hln : LenN (r + 1) ps := fun p hp => (hdeg p hp).1
      have e2 : 2 * (q : Int) + 1 = ((2 * q + 1 : Nat) : Int) := by omega
      have e3 : 2 * (q : Int) = ((2 * q : Nat) : Int) := by omega
      -- the odd part
      refine ⟨_, rfl, _, rfl, _, _, rfl, rfl, .inl ⟨by decide, by decide⟩, _, _, rfl, rfl, sv, ps, 2 * q + 1, (by show [sv, V.int (2 * (q : Int) + 1)] = _; rw [e2]), hsv, fine_law hr3 (by omega) hd12 hpl (fun p hp => ⟨(hdeg p hp).1, by have := (hdeg p hp).2; omega⟩), fun H7 rv s7 hrv => ?_⟩
      refine ⟨by decide, fun l3 hl3 => ⟨_, rfl, _, _, rfl, rfl, .inr ⟨_, rfl, l3, _, _, _, rfl, rfl, SqL.of upd_same, lim_at r, _, rfl, ?_⟩⟩⟩
      obtain ⟨tr, xr, rfl, htr, prr⟩ := hrv
      have s8 := Same.fresh (o := .lst [V.int 40, V.int 8]) hl3
      refine ⟨tr, xr, rfl, s8 _ _ htr, fun H9 cu s9 hcu => ?_⟩
      have ecut : cutV xr none (some ((lim r : Nat) : Int)) = xr.take (lim r) := by
        unfold cutV
        rw [HT.sIx_nat, HT.sIx_none]
        show (xr.drop 0).take (min (lim r) xr.length - 0) = xr.take (lim r)
        rw [List.drop_zero, Nat.sub_zero, List.take_eq_take_iff]
        omega
      rw [ecut] at hcu
      have pcu : Paired (IsP H9) (xr.take (lim r)) ((raisedM ps (2 * q + 1)).take (lim r)) := Pd.take _ (Prs.mono (Tups.of (s8.trans s9)) prr)
      have hlim := lim_le r
      refine ⟨.ref cu, (raisedM ps (2 * q + 1)).take (lim r), rfl, ⟨cu, _, rfl, hcu, pcu⟩, by rw [List.length_take]; omega, fun p hp => ?_, fun H10 hv10 s10 hh10 => ?_⟩
      · have := lenN_raised (2 * q + 1) hln p (List.mem_of_mem_take hp)
        omega
      have hnil : halvedM ((raisedM ps (2 * q + 1)).take (lim r)) = [] := halved_nil fun z hz => none_odd (by omega) (List.mem_of_mem_take hz)
      rw [hnil] at hh10
      refine ⟨Nat.zero_le _, fun u hu => ⟨dS [], dS [], (hh10.mono (Tups.fresh hu)).dp, IsS.dp ⟨u, [], rfl, upd_same, .nil⟩, shaped_dS _, shaped_dS _, _, rfl, ?_⟩⟩
      rw [eqv_dS]
      refine iteF ?_
      have s6a : Same H6 (upd H10 u (.tup [])) := (((s7.trans s8).trans s9).trans s10).trans (Same.fresh hu)
      -- up
      have fine2 : Fine (2 * q) ps := fine_law hr3 (by omega) hd12 hpl (fun p hp => ⟨(hdeg p hp).1, by have := (hdeg p hp).2; omega⟩)
      refine ⟨_, rfl, _, rfl, _, _, rfl, rfl, .inl ⟨by decide, by decide⟩, sv, ps, 2 * q, (by show [sv, V.int (2 * (q : Int))] = _; rw [e3]), hsv.mono (Tups.of s6a), fine2, fun H11 uv s11 huv => ?_⟩
      have s6b : Same H6 H11 := s6a.trans s11
      have hsv11 := hsv.mono (Tups.of s6b)
      obtain ⟨tu, xu, rfl, htu, pru⟩ := id huv
      have hxu : xu.length = (raisedM ps (2 * q)).length := pru.length
      have hfh : Fine q (halvedM ps) := by
        refine fine_law hr3 (by omega) hd12 (Nat.le_trans (halved_len ps) hpl) fun p hp => ?_
        have := deg_halved hdeg hp
        omega
      have hrn : ∀ p ∈ raisedM ps (2 * q), p.length ≤ 1000 := fun p hp => by
        have := lenN_raised (2 * q) hln p hp
        omega
      refine ⟨fun σ H' => σ = [some (.ref a), some (.int (i : Nat)), some (.ref b), some (.int (1 + (r : Int))), some (.int (q : Nat)), some (.int (d : Nat)), some sv, some (.ref tu), a8, a9] ∧ Same H11 H', ?_, ?_⟩
      · refine ⟨_, rfl, tu, _, rfl, .inr (SqT.of htu), by decide, fun l4 hl4 => ⟨_, rfl, _, _, rfl, rfl, .inr ⟨_, rfl, l4, _, _, _, rfl, rfl, SqL.of upd_same, lim_at r, _, _, rfl, rfl, _, rfl, ?_⟩⟩⟩
        have s12 := Same.fresh (o := .lst [V.int 40, V.int 8]) hl4
        refine ite2 (fun hc => ?_) (fun _ => iteF ⟨rfl, s12⟩)
        have hle : xu.length ≤ lim r := by have := of_decide_eq_true hc; omega
        refine ⟨_, rfl, .ref tu, raisedM ps (2 * q), rfl, huv.mono (Tups.of s12), by omega, hrn, fun H13 v13 s13 hv13 => ?_⟩
        refine ⟨_, rfl, sv, ps, rfl, hsv11.mono (Tups.of (s12.trans s13)), by omega, fun p hp => by have := (hdeg p hp).1; omega, fun H14 v14 s14 hv14 => ?_⟩
        refine ⟨_, rfl, v14, halvedM ps, q, rfl, hv14, hfh, fun H15 v15 s15 hv15 => ?_⟩
        have hv13' := hv13.mono (Tups.of (s14.trans s15))
        rw [halved_raised q hln] at hv13'
        refine ⟨_, _, hv13'.dp, hv15.dp, shaped_dS _, shaped_dS _, _, rfl, ?_⟩
        rw [eqv_dS]
        exact iteF ⟨rfl, ((s12.trans s13).trans s14).trans s15⟩
      · rintro σ H12 ⟨rfl, s12⟩
        refine ⟨fun σ H' => σ = [some (.ref a), some (.int (i : Nat)), some (.ref b), some (.int (1 + (r : Int))), some (.int (q : Nat)), some (.int (d : Nat)), some sv, some (.ref tu), a8, a9] ∧ Same H11 H', ?_, ?_⟩
        · refine ⟨_, rfl, _, _, rfl, rfl, _, rfl, ?_⟩
          refine ite2 (fun hq0 => ?_) (fun _ => iteF ⟨rfl, s12⟩)
          have hq0' : 0 < q := by have := of_decide_eq_true hq0; omega
          refine ⟨_, rfl, tu, _, rfl, .inr (SqT.of (s12 _ _ htu)), by decide, fun l4 hl4 => ⟨_, rfl, _, _, rfl, rfl, .inr ⟨_, rfl, l4, _, _, _, rfl, rfl, SqL.of upd_same, lim_at r, _, _, rfl, rfl, _, rfl, ?_⟩⟩⟩
          have s13 := s12.trans (Same.fresh (o := .lst [V.int 40, V.int 8]) hl4)
          refine ite2 (fun hc => ?_) (fun _ => iteF ⟨rfl, s13⟩)
          have hle : xu.length ≤ lim r := by have := of_decide_eq_true hc; omega
          refine ⟨_, rfl, _, rfl, .ref tu, raisedM ps (2 * q), rfl, huv.mono (Tups.of s13), by omega, hrn, fun H14 v14 s14 hv14 => ?_⟩
          have hlq := halved_len (raisedM ps (2 * q))
          have hj : r + 1 ≤ 5 := by omega
          rw [halved_raised q hln] at hv14 hlq
          refine ⟨r + 1, v14, raisedM (halvedM ps) q, (by show [V.int (1 + (r : Int)), v14] = _; rw [en]), hv14, by omega, srt_nodup (srt_oddOf _), fun hne => ?_, fun H15 t15 x1 x2 x3 s15 ht15 => ?_⟩
          · obtain ⟨d', h1, h2, h3⟩ := judged_zero hr3 hq hq0' hd hdeg hne
            exact ⟨d', h1, by omega, hj, h2, h3⟩
          · refine ⟨t15, _, _, _, rfl, rfl, SqT.of ht15, rfl, rfl, _, rfl, ?_⟩
            exact iteNS rfl ⟨rfl, (s13.trans s14).trans s15⟩
        · rintro σ H13 ⟨rfl, s13⟩
          have t13 : Same H1 H13 := (t6.trans s6b).trans s13
          have bag13 : BagAt H13 b := bag6.mono (s6b.trans s13)
          -- m, less
          refine ⟨_, rfl, b, 5, rfl, bag13, by decide, by decide, fun H14 m but14 bag14 hm => ⟨_, _, rfl, rfl, ?_⟩⟩
          have t14 : Same H1 H14 := same_but t13 hb0 but14
          have em : (1 + (m : Int)) = ((m + 1 : Nat) : Int) := by omega
          have eim : (1 + (m : Int)) - 1 = ((m : Nat) : Int) := by omega
          have hL : ∀ r < 5, 1 ≤ tL.getD r 0 ∧ tL.getD r 0 ≤ 12 := by decide
          refine ⟨_, rfl, by decide, fun l5 hl5 => ⟨_, rfl, _, _, rfl, rfl, l5, tL.map (fun x => V.int ((x : Nat) : Int)), _, _, rfl, rfl, SqL.of upd_same, atI_tab (L := tL) hm eim, ?_⟩⟩
          refine ⟨b, tL.getD m 0, rfl, bag14.mono (Same.fresh hl5), (hL m hm).1, by have := (hL m hm).2; omega, fun H15 l but15 bag15 hl => ?_⟩
          have t15 : Same H1 H15 := same_but (t14.trans (Same.fresh hl5)) hb0 but15
          obtain ⟨hroom1, hroom2⟩ := chkR m hm l hl
          have hrow := chk4 m hm l hl
          have e4 : 2 * (l : Int) + (1 + (m : Int)) = ((2 * l + (m + 1) : Nat) : Int) := by omega
          refine ⟨_, rfl, _, rfl, m + 1, l, (by show [V.int (1 + (m : Int)), V.int (l : Nat)] = _; rw [em]), by omega, by omega, hroom1, fun H16 s16 => ?_⟩
          refine ⟨_, rfl, _, rfl, _, _, rfl, rfl, .inl ⟨by decide, by decide⟩, _, rfl, _, _, rfl, rfl, m + 1, 2 * l + (m + 1), (by show [V.int (1 + (m : Int)), V.int (2 * (l : Int) + (1 + (m : Int)))] = _; rw [em, show (2 * (l : Int) + ((m + 1 : Nat) : Int)) = ((2 * l + (m + 1) : Nat) : Int) by omega]), by omega, by omega, hroom2, fun H17 s17 => ⟨_, _, rfl, rfl, _, rfl, ?_⟩⟩
          rw [decide_eq_false (by omega)]
          refine iteF ?_
          exact ⟨s1.trans (t15.trans (s16.trans s17)), _, _, _, _, _, _, _, _, _, rfl⟩
    · rintro σ H1 ⟨s1, a1, a2, a3, a4, a5, a6, a7, a8, a9, rfl⟩
      exact k _
end
end Rz
-- part End
set_option Elab.async false
set_option linter.all false
set_option maxRecDepth 100000
set_option maxHeartbeats 8000000
namespace Rz
open PySem L2
/-! ### what the top has written -/
theorem all_mk {l : PySem.W.OpenLaw} {w : World} {K : PySem.W.Frag} {h : Heap} {mg : Str → Option Value} {fa C pa f_hv f_wh f_so f_dg f_ow f_st f_rp f_lr f_ra f_ll f_in f_nu f_le f_pu f_ma f_wi f_co f_ir f_lo f_al f_rs f_od f_pa f_ju f_sd f_ro f_ba f_ta f_ld f_of f_su f_lw f_sm f_la : Addr} (X : K.In h) (G : h.Ns mainGlobals mg) (hfa : mg "law" = some (.ref fa))
    {odP od_hv an_hv od_wh an_wh od_so an_so od_dg an_dg od_ow an_ow od_st an_st od_rp an_rp od_lr an_lr od_ra an_ra od_ll an_ll od_in an_in od_nu an_nu od_le an_le od_pu an_pu od_ma an_ma od_wi an_wi od_co an_co od_ir an_ir od_lo an_lo od_al an_al od_rs an_rs od_od an_od od_pa an_pa od_ju an_ju od_sd an_sd od_ro an_ro od_ba an_ba od_ta an_ta od_ld an_ld od_of an_of od_su an_su od_lw an_lw od_sm an_sm od_la an_la : Option Addr} {slP sl_hv sl_wh sl_so sl_dg sl_ow sl_st sl_rp sl_lr sl_ra sl_ll sl_in sl_nu sl_le sl_pu sl_ma sl_wi sl_co sl_ir sl_lo sl_al sl_rs sl_od sl_pa sl_ju sl_sd sl_ro sl_ba sl_ta sl_ld sl_of sl_su sl_lw sl_sm sl_la : Array (Option Value)}
    {oc_hv kV_hv dc_hv pm_hv cd_hv ct_hv oc_wh kV_wh dc_wh pm_wh cd_wh ct_wh oc_so kV_so dc_so pm_so cd_so ct_so oc_dg kV_dg dc_dg pm_dg cd_dg ct_dg oc_ow kV_ow dc_ow pm_ow cd_ow ct_ow oc_st kV_st dc_st pm_st cd_st ct_st oc_rp kV_rp dc_rp pm_rp cd_rp ct_rp oc_lr kV_lr dc_lr pm_lr cd_lr ct_lr oc_ra kV_ra dc_ra pm_ra cd_ra ct_ra oc_ll kV_ll dc_ll pm_ll cd_ll ct_ll oc_in kV_in dc_in pm_in cd_in ct_in oc_nu kV_nu dc_nu pm_nu cd_nu ct_nu oc_le kV_le dc_le pm_le cd_le ct_le oc_pu kV_pu dc_pu pm_pu cd_pu ct_pu oc_ma kV_ma dc_ma pm_ma cd_ma ct_ma oc_wi kV_wi dc_wi pm_wi cd_wi ct_wi oc_co kV_co dc_co pm_co cd_co ct_co oc_ir kV_ir dc_ir pm_ir cd_ir ct_ir oc_lo kV_lo dc_lo pm_lo cd_lo ct_lo oc_al kV_al dc_al pm_al cd_al ct_al oc_rs kV_rs dc_rs pm_rs cd_rs ct_rs oc_od kV_od dc_od pm_od cd_od ct_od oc_pa kV_pa dc_pa pm_pa cd_pa ct_pa oc_ju kV_ju dc_ju pm_ju cd_ju ct_ju oc_sd kV_sd dc_sd pm_sd cd_sd ct_sd oc_ro kV_ro dc_ro pm_ro cd_ro ct_ro oc_ba kV_ba dc_ba pm_ba cd_ba ct_ba oc_ta kV_ta dc_ta pm_ta cd_ta ct_ta oc_ld kV_ld dc_ld pm_ld cd_ld ct_ld oc_of kV_of dc_of pm_of cd_of ct_of oc_su kV_su dc_su pm_su cd_su ct_su oc_lw kV_lw dc_lw pm_lw cd_lw ct_lw oc_sm kV_sm dc_sm pm_sm cd_sm ct_sm oc_la kV_la dc_la pm_la cd_la ct_la : Value}
    {t_prods t_few t_deg t_degM u1 u2 u3 u4 u5 : PySem.Tok} {nP : Nat}
    (aC : PySem.W.nsIn K mainGlobals "Space" = some (some (.ref C)))
    (a_hv : PySem.W.nsIn K mainGlobals "halved" = some (some (.ref f_hv)))
    (l_hv : K.lookup f_hv = some ⟨oc_hv, od_hv, .func (PySem.W.fnOf "halved" "halved" (defArgs sHalved) (defBody sHalved) (defScope sHalved) .none kV_hv dc_hv pm_hv an_hv cd_hv ct_hv), sl_hv⟩)
    (c_hv : PySem.W.codeIn K cd_hv "halved" = true)
    (k_hv : PySem.W.keepIn K (.ref f_hv) = true)
    (a_wh : PySem.W.nsIn K mainGlobals "is_whole" = some (some (.ref f_wh)))
    (l_wh : K.lookup f_wh = some ⟨oc_wh, od_wh, .func (PySem.W.fnOf "is_whole" "is_whole" (defArgs sIsWhole) (defBody sIsWhole) (defScope sIsWhole) .none kV_wh dc_wh pm_wh an_wh cd_wh ct_wh), sl_wh⟩)
    (c_wh : PySem.W.codeIn K cd_wh "is_whole" = true)
    (k_wh : PySem.W.keepIn K (.ref f_wh) = true)
    (a_so : PySem.W.nsIn K mainGlobals "sum_of_products" = some (some (.ref f_so)))
    (l_so : K.lookup f_so = some ⟨oc_so, od_so, .func (PySem.W.fnOf "sum_of_products" "sum_of_products" (defArgs sSop) (defBody sSop) (defScope sSop) .none kV_so dc_so pm_so an_so cd_so ct_so), sl_so⟩)
    (c_so : PySem.W.codeIn K cd_so "sum_of_products" = true)
    (k_so : PySem.W.keepIn K (.ref f_so) = true)
    (a_dg : PySem.W.nsIn K mainGlobals "degrees" = some (some (.ref f_dg)))
    (l_dg : K.lookup f_dg = some ⟨oc_dg, od_dg, .func (PySem.W.fnOf "degrees" "degrees" (defArgs sDegrees) (defBody sDegrees) (defScope sDegrees) .none kV_dg dc_dg pm_dg an_dg cd_dg ct_dg), sl_dg⟩)
    (c_dg : PySem.W.codeIn K cd_dg "degrees" = true)
    (k_dg : PySem.W.keepIn K (.ref f_dg) = true)
    (a_ow : PySem.W.nsIn K mainGlobals "odd_ways" = some (some (.ref f_ow)))
    (l_ow : K.lookup f_ow = some ⟨oc_ow, od_ow, .func (PySem.W.fnOf "odd_ways" "odd_ways" (defArgs sOddWays) (defBody sOddWays) (defScope sOddWays) .none kV_ow dc_ow pm_ow an_ow cd_ow ct_ow), sl_ow⟩)
    (c_ow : PySem.W.codeIn K cd_ow "odd_ways" = true)
    (k_ow : PySem.W.keepIn K (.ref f_ow) = true)
    (a_st : PySem.W.nsIn K mainGlobals "steps_of" = some (some (.ref f_st)))
    (l_st : K.lookup f_st = some ⟨oc_st, od_st, .func (PySem.W.fnOf "steps_of" "steps_of" (defArgs sSteps) (defBody sSteps) (defScope sSteps) .none kV_st dc_st pm_st an_st cd_st ct_st), sl_st⟩)
    (c_st : PySem.W.codeIn K cd_st "steps_of" = true)
    (k_st : PySem.W.keepIn K (.ref f_st) = true)
    (a_rp : PySem.W.nsIn K mainGlobals "raised_product" = some (some (.ref f_rp)))
    (l_rp : K.lookup f_rp = some ⟨oc_rp, od_rp, .func (PySem.W.fnOf "raised_product" "raised_product" (defArgs sRaisedProduct) (defBody sRaisedProduct) (defScope sRaisedProduct) .none kV_rp dc_rp pm_rp an_rp cd_rp ct_rp), sl_rp⟩)
    (c_rp : PySem.W.codeIn K cd_rp "raised_product" = true)
    (k_rp : PySem.W.keepIn K (.ref f_rp) = true)
    (a_lr : PySem.W.nsIn K mainGlobals "look_part_raising" = some (some (.ref f_lr)))
    (l_lr : K.lookup f_lr = some ⟨oc_lr, od_lr, .func (PySem.W.fnOf "look_part" "look_part" (defArgs sLookR) (defBody sLookR) (defScope sLookR) .none kV_lr dc_lr pm_lr an_lr cd_lr ct_lr), sl_lr⟩)
    (c_lr : PySem.W.codeIn K cd_lr "look_part" = true)
    (k_lr : PySem.W.keepIn K (.ref f_lr) = true)
    (a_ra : PySem.W.nsIn K mainGlobals "raised" = some (some (.ref f_ra)))
    (l_ra : K.lookup f_ra = some ⟨oc_ra, od_ra, .func (PySem.W.fnOf "raised" "raised" (defArgs sRaised) (defBody sRaised) (defScope sRaised) .none kV_ra dc_ra pm_ra an_ra cd_ra ct_ra), sl_ra⟩)
    (c_ra : PySem.W.codeIn K cd_ra "raised" = true)
    (k_ra : PySem.W.keepIn K (.ref f_ra) = true)
    (a_ll : PySem.W.nsIn K mainGlobals "look_part_lowering" = some (some (.ref f_ll)))
    (l_ll : K.lookup f_ll = some ⟨oc_ll, od_ll, .func (PySem.W.fnOf "look_part" "look_part" (defArgs sLookL) (defBody sLookL) (defScope sLookL) .none kV_ll dc_ll pm_ll an_ll cd_ll ct_ll), sl_ll⟩)
    (c_ll : PySem.W.codeIn K cd_ll "look_part" = true)
    (k_ll : PySem.W.keepIn K (.ref f_ll) = true)
    (a_in : PySem.W.findIn K (.ref C) "__init__" = some (some (.ref f_in)))
    (i_in : PySem.W.isFn K (.ref f_in) = true)
    (l_in : K.lookup f_in = some ⟨oc_in, od_in, .func (PySem.W.fnOf "__init__" "Space.__init__" (defArgs sInit) (defBody sInit) (defScope sInit) .none kV_in dc_in pm_in an_in cd_in ct_in), sl_in⟩)
    (c_in : PySem.W.codeIn K cd_in "Space.__init__" = true)
    (k_in : PySem.W.keepIn K (.ref f_in) = true)
    (a_nu : PySem.W.findIn K (.ref C) "number_of" = some (some (.ref f_nu)))
    (i_nu : PySem.W.isFn K (.ref f_nu) = true)
    (l_nu : K.lookup f_nu = some ⟨oc_nu, od_nu, .func (PySem.W.fnOf "number_of" "Space.number_of" (defArgs sNumberOf) (defBody sNumberOf) (defScope sNumberOf) .none kV_nu dc_nu pm_nu an_nu cd_nu ct_nu), sl_nu⟩)
    (c_nu : PySem.W.codeIn K cd_nu "Space.number_of" = true)
    (k_nu : PySem.W.keepIn K (.ref f_nu) = true)
    (a_le : PySem.W.findIn K (.ref C) "left_of" = some (some (.ref f_le)))
    (i_le : PySem.W.isFn K (.ref f_le) = true)
    (l_le : K.lookup f_le = some ⟨oc_le, od_le, .func (PySem.W.fnOf "left_of" "Space.left_of" (defArgs sLeftOf) (defBody sLeftOf) (defScope sLeftOf) .none kV_le dc_le pm_le an_le cd_le ct_le), sl_le⟩)
    (c_le : PySem.W.codeIn K cd_le "Space.left_of" = true)
    (k_le : PySem.W.keepIn K (.ref f_le) = true)
    (a_pu : PySem.W.findIn K (.ref C) "put" = some (some (.ref f_pu)))
    (i_pu : PySem.W.isFn K (.ref f_pu) = true)
    (l_pu : K.lookup f_pu = some ⟨oc_pu, od_pu, .func (PySem.W.fnOf "put" "Space.put" (defArgs sPut) (defBody sPut) (defScope sPut) .none kV_pu dc_pu pm_pu an_pu cd_pu ct_pu), sl_pu⟩)
    (c_pu : PySem.W.codeIn K cd_pu "Space.put" = true)
    (k_pu : PySem.W.keepIn K (.ref f_pu) = true)
    (a_ma : PySem.W.findIn K (.ref C) "made_of" = some (some (.ref f_ma)))
    (i_ma : PySem.W.isFn K (.ref f_ma) = true)
    (l_ma : K.lookup f_ma = some ⟨oc_ma, od_ma, .func (PySem.W.fnOf "made_of" "Space.made_of" (defArgs sMadeOf) (defBody sMadeOf) (defScope sMadeOf) .none kV_ma dc_ma pm_ma an_ma cd_ma ct_ma), sl_ma⟩)
    (c_ma : PySem.W.codeIn K cd_ma "Space.made_of" = true)
    (k_ma : PySem.W.keepIn K (.ref f_ma) = true)
    (a_wi : PySem.W.findIn K (.ref C) "without_lead" = some (some (.ref f_wi)))
    (i_wi : PySem.W.isFn K (.ref f_wi) = true)
    (l_wi : K.lookup f_wi = some ⟨oc_wi, od_wi, .func (PySem.W.fnOf "without_lead" "Space.without_lead" (defArgs sWithoutLead) (defBody sWithoutLead) (defScope sWithoutLead) .none kV_wi dc_wi pm_wi an_wi cd_wi ct_wi), sl_wi⟩)
    (c_wi : PySem.W.codeIn K cd_wi "Space.without_lead" = true)
    (k_wi : PySem.W.keepIn K (.ref f_wi) = true)
    (a_co : PySem.W.nsIn K mainGlobals "products_counted" = some (some (.ref f_co)))
    (l_co : K.lookup f_co = some ⟨oc_co, od_co, .func (PySem.W.fnOf "products_counted" "products_counted" (defArgs sCounted) (defBody sCounted) (defScope sCounted) .none kV_co dc_co pm_co an_co cd_co ct_co), sl_co⟩)
    (c_co : PySem.W.codeIn K cd_co "products_counted" = true)
    (k_co : PySem.W.keepIn K (.ref f_co) = true)
    (a_ir : PySem.W.nsIn K mainGlobals "is_room" = some (some (.ref f_ir)))
    (l_ir : K.lookup f_ir = some ⟨oc_ir, od_ir, .func (PySem.W.fnOf "is_room" "is_room" (defArgs sIsRoom) (defBody sIsRoom) (defScope sIsRoom) .none kV_ir dc_ir pm_ir an_ir cd_ir ct_ir), sl_ir⟩)
    (c_ir : PySem.W.codeIn K cd_ir "is_room" = true)
    (k_ir : PySem.W.keepIn K (.ref f_ir) = true)
    (a_lo : PySem.W.nsIn K mainGlobals "look_room" = some (some (.ref f_lo)))
    (l_lo : K.lookup f_lo = some ⟨oc_lo, od_lo, .func (PySem.W.fnOf "look_room" "look_room" (defArgs sLookRoom) (defBody sLookRoom) (defScope sLookRoom) .none kV_lo dc_lo pm_lo an_lo cd_lo ct_lo), sl_lo⟩)
    (c_lo : PySem.W.codeIn K cd_lo "look_room" = true)
    (k_lo : PySem.W.keepIn K (.ref f_lo) = true)
    (a_al : PySem.W.nsIn K mainGlobals "all_products" = some (some (.ref f_al)))
    (l_al : K.lookup f_al = some ⟨oc_al, od_al, .func (PySem.W.fnOf "all_products" "all_products" (defArgs sAllProducts) (defBody sAllProducts) (defScope sAllProducts) .none kV_al dc_al pm_al an_al cd_al ct_al), sl_al⟩)
    (c_al : PySem.W.codeIn K cd_al "all_products" = true)
    (k_al : PySem.W.keepIn K (.ref f_al) = true)
    (a_rs : PySem.W.nsIn K mainGlobals "raised_space" = some (some (.ref f_rs)))
    (l_rs : K.lookup f_rs = some ⟨oc_rs, od_rs, .func (PySem.W.fnOf "raised_space" "raised_space" (defArgs sRaisedSpace) (defBody sRaisedSpace) (defScope sRaisedSpace) .none kV_rs dc_rs pm_rs an_rs cd_rs ct_rs), sl_rs⟩)
    (c_rs : PySem.W.codeIn K cd_rs "raised_space" = true)
    (k_rs : PySem.W.keepIn K (.ref f_rs) = true)
    (a_od : PySem.W.nsIn K mainGlobals "one_degree" = some (some (.ref f_od)))
    (l_od : K.lookup f_od = some ⟨oc_od, od_od, .func (PySem.W.fnOf "one_degree" "one_degree" (defArgs sOneDegree) (defBody sOneDegree) (defScope sOneDegree) .none kV_od dc_od pm_od an_od cd_od ct_od), sl_od⟩)
    (c_od : PySem.W.codeIn K cd_od "one_degree" = true)
    (k_od : PySem.W.keepIn K (.ref f_od) = true)
    (a_pa : PySem.W.nsIn K mainGlobals "pairs_of" = some (some (.ref f_pa)))
    (l_pa : K.lookup f_pa = some ⟨oc_pa, od_pa, .func (PySem.W.fnOf "pairs_of" "pairs_of" (defArgs sPairsOf) (defBody sPairsOf) (defScope sPairsOf) .none kV_pa dc_pa pm_pa an_pa cd_pa ct_pa), sl_pa⟩)
    (c_pa : PySem.W.codeIn K cd_pa "pairs_of" = true)
    (k_pa : PySem.W.keepIn K (.ref f_pa) = true)
    (a_ju : PySem.W.nsIn K mainGlobals "judged" = some (some (.ref f_ju)))
    (l_ju : K.lookup f_ju = some ⟨oc_ju, od_ju, .func (PySem.W.fnOf "judged" "judged" (defArgs sJudged) (defBody sJudged) (defScope sJudged) .none kV_ju dc_ju pm_ju an_ju cd_ju ct_ju), sl_ju⟩)
    (c_ju : PySem.W.codeIn K cd_ju "judged" = true)
    (k_ju : PySem.W.keepIn K (.ref f_ju) = true)
    (a_sd : PySem.W.nsIn K mainGlobals "standing" = some (some (.ref f_sd)))
    (l_sd : K.lookup f_sd = some ⟨oc_sd, od_sd, .func (PySem.W.fnOf "standing" "standing" (defArgs sStanding) (defBody sStanding) (defScope sStanding) .none kV_sd dc_sd pm_sd an_sd cd_sd ct_sd), sl_sd⟩)
    (c_sd : PySem.W.codeIn K cd_sd "standing" = true)
    (k_sd : PySem.W.keepIn K (.ref f_sd) = true)
    (a_ro : PySem.W.nsIn K mainGlobals "rows_counted" = some (some (.ref f_ro)))
    (l_ro : K.lookup f_ro = some ⟨oc_ro, od_ro, .func (PySem.W.fnOf "rows_counted" "rows_counted" (defArgs sRowsCounted) (defBody sRowsCounted) (defScope sRowsCounted) .none kV_ro dc_ro pm_ro an_ro cd_ro ct_ro), sl_ro⟩)
    (c_ro : PySem.W.codeIn K cd_ro "rows_counted" = true)
    (k_ro : PySem.W.keepIn K (.ref f_ro) = true)
    (a_ba : PySem.W.nsIn K mainGlobals "_law_bag" = some (some (.ref f_ba)))
    (l_ba : K.lookup f_ba = some ⟨oc_ba, od_ba, .func (PySem.W.fnOf "_law_bag" "_law_bag" (defArgs sBag) (defBody sBag) (defScope sBag) .none kV_ba dc_ba pm_ba an_ba cd_ba ct_ba), sl_ba⟩)
    (c_ba : PySem.W.codeIn K cd_ba "_law_bag" = true)
    (k_ba : PySem.W.keepIn K (.ref f_ba) = true)
    (a_ta : PySem.W.nsIn K mainGlobals "_law_take" = some (some (.ref f_ta)))
    (l_ta : K.lookup f_ta = some ⟨oc_ta, od_ta, .func (PySem.W.fnOf "_law_take" "_law_take" (defArgs sTake) (defBody sTake) (defScope sTake) .none kV_ta dc_ta pm_ta an_ta cd_ta ct_ta), sl_ta⟩)
    (c_ta : PySem.W.codeIn K cd_ta "_law_take" = true)
    (k_ta : PySem.W.keepIn K (.ref f_ta) = true)
    (a_ld : PySem.W.nsIn K mainGlobals "_law_odd" = some (some (.ref f_ld)))
    (l_ld : K.lookup f_ld = some ⟨oc_ld, od_ld, .func (PySem.W.fnOf "_law_odd" "_law_odd" (defArgs sOdd) (defBody sOdd) (defScope sOdd) .none kV_ld dc_ld pm_ld an_ld cd_ld ct_ld), sl_ld⟩)
    (c_ld : PySem.W.codeIn K cd_ld "_law_odd" = true)
    (k_ld : PySem.W.keepIn K (.ref f_ld) = true)
    (a_of : PySem.W.nsIn K mainGlobals "_law_of_degree" = some (some (.ref f_of)))
    (l_of : K.lookup f_of = some ⟨oc_of, od_of, .func (PySem.W.fnOf "_law_of_degree" "_law_of_degree" (defArgs sOfDegree) (defBody sOfDegree) (defScope sOfDegree) .none kV_of dc_of pm_of an_of cd_of ct_of), sl_of⟩)
    (c_of : PySem.W.codeIn K cd_of "_law_of_degree" = true)
    (k_of : PySem.W.keepIn K (.ref f_of) = true)
    (a_su : PySem.W.nsIn K mainGlobals "_law_sum_of" = some (some (.ref f_su)))
    (l_su : K.lookup f_su = some ⟨oc_su, od_su, .func (PySem.W.fnOf "_law_sum_of" "_law_sum_of" (defArgs sSumOf) (defBody sSumOf) (defScope sSumOf) .none kV_su dc_su pm_su an_su cd_su ct_su), sl_su⟩)
    (c_su : PySem.W.codeIn K cd_su "_law_sum_of" = true)
    (k_su : PySem.W.keepIn K (.ref f_su) = true)
    (a_lw : PySem.W.nsIn K mainGlobals "_law_raised" = some (some (.ref f_lw)))
    (l_lw : K.lookup f_lw = some ⟨oc_lw, od_lw, .func (PySem.W.fnOf "_law_raised" "_law_raised" (defArgs sLawRaised) (defBody sLawRaised) (defScope sLawRaised) .none kV_lw dc_lw pm_lw an_lw cd_lw ct_lw), sl_lw⟩)
    (c_lw : PySem.W.codeIn K cd_lw "_law_raised" = true)
    (k_lw : PySem.W.keepIn K (.ref f_lw) = true)
    (a_sm : PySem.W.nsIn K mainGlobals "_law_some" = some (some (.ref f_sm)))
    (l_sm : K.lookup f_sm = some ⟨oc_sm, od_sm, .func (PySem.W.fnOf "_law_some" "_law_some" (defArgs sSome) (defBody sSome) (defScope sSome) .none kV_sm dc_sm pm_sm an_sm cd_sm ct_sm), sl_sm⟩)
    (c_sm : PySem.W.codeIn K cd_sm "_law_some" = true)
    (k_sm : PySem.W.keepIn K (.ref f_sm) = true)
    (a_la : PySem.W.nsIn K mainGlobals "law" = some (some (.ref f_la)))
    (l_la : K.lookup f_la = some ⟨oc_la, od_la, .func (PySem.W.fnOf "law" "law" (defArgs sLaw) (defBody sLaw) (defScope sLaw) .none kV_la dc_la pm_la an_la cd_la ct_la), sl_la⟩)
    (c_la : PySem.W.codeIn K cd_la "law" = true)
    (k_la : PySem.W.keepIn K (.ref f_la) = true)
    (pg : PySem.W.plainGet K C Str.empty = true)
    (hd : PySem.W.hasDictIn K C = true)
    (po : PySem.W.plainOver K C = true)
    (sa : PySem.W.findIn K (.ref C) "__setattr__" = some (some (.builtin "object.__setattr__")))
    (mk : PySem.W.makesIn K C = true)
    (kc : PySem.W.keepIn K (.ref C) = true)
    (nPr : PySem.W.findIn K (.ref C) "products" = some none)
    (nPl : PySem.W.findIn K (.ref C) "places" = some none)
    (nLe : PySem.W.findIn K (.ref C) "leads" = some none)
    (nPu : PySem.W.findIn K (.ref C) "put_ones" = some none)
    (z_all : PySem.W.nsIn K mainGlobals "all" = some none)
    (z_tuple : PySem.W.nsIn K mainGlobals "tuple" = some none)
    (z_sorted : PySem.W.nsIn K mainGlobals "sorted" = some none)
    (z_sum : PySem.W.nsIn K mainGlobals "sum" = some none)
    (z_set : PySem.W.nsIn K mainGlobals "set" = some none)
    (z_isinstance : PySem.W.nsIn K mainGlobals "isinstance" = some none)
    (z_int : PySem.W.nsIn K mainGlobals "int" = some none)
    (z_bool : PySem.W.nsIn K mainGlobals "bool" = some none)
    (z_range : PySem.W.nsIn K mainGlobals "range" = some none)
    (z_min : PySem.W.nsIn K mainGlobals "min" = some none)
    (z_max : PySem.W.nsIn K mainGlobals "max" = some none)
    (z_len : PySem.W.nsIn K mainGlobals "len" = some none)
    (z_abs : PySem.W.nsIn K mainGlobals "abs" = some none)
    (z_list : PySem.W.nsIn K mainGlobals "list" = some none)
    (z_enumerate : PySem.W.nsIn K mainGlobals "enumerate" = some none)
    (v_prods : PySem.W.nsIn K mainGlobals "MOST_PRODUCTS" = some (some (.int 200 t_prods)))
    (v_few : PySem.W.nsIn K mainGlobals "FEW_LETTERS" = some (some (.int 3 t_few)))
    (v_deg : PySem.W.nsIn K mainGlobals "MOST_DEGREE" = some (some (.int 24 t_deg)))
    (v_degM : PySem.W.nsIn K mainGlobals "MOST_DEGREE_OF_MORE" = some (some (.int 10 t_degM)))
    (aP : PySem.W.nsIn K mainGlobals "PARTS" = some (some (.ref pa)))
    (lP : K.lookup pa = some ⟨.type "tuple", odP, .seq (Array.mk [.int 1 u1, .int 2 u2, .int 4 u3, .int 8 u4, .int 16 u5]) nP, slP⟩)
    : ∃ fd : FuncData, (∀ (s : Shared) (v : Value), BindsTo s fd ⟨[v], []⟩ [("_law_script", v)]) ∧ ∀ base : Heap, K.In base → base.Ns mainGlobals mg → FnOk l.prog w K mg base CX0 9 fa fd ["_law_script"] (spLaw K) := by
  have e := hfa.symm.trans (PySem.W.mg_of X G a_la)
  cases e
  have T : Bt mg := ⟨PySem.W.mg_none_of X G z_all, PySem.W.mg_none_of X G z_tuple, PySem.W.mg_none_of X G z_sorted, PySem.W.mg_none_of X G z_sum, PySem.W.mg_none_of X G z_set, PySem.W.mg_none_of X G z_isinstance, PySem.W.mg_none_of X G z_int, PySem.W.mg_none_of X G z_bool, PySem.W.mg_none_of X G z_range, PySem.W.mg_none_of X G z_min, PySem.W.mg_none_of X G z_max, PySem.W.mg_none_of X G z_len, PySem.W.mg_none_of X G z_abs, PySem.W.mg_none_of X G z_list, PySem.W.mg_none_of X G z_enumerate⟩
  have N : Cn mg := ⟨⟨_, PySem.W.mg_of X G v_prods⟩, ⟨_, PySem.W.mg_of X G v_few⟩, ⟨_, PySem.W.mg_of X G v_deg⟩, ⟨_, PySem.W.mg_of X G v_degM⟩⟩
  have PT' : PartsT K mg := ⟨pa, PySem.W.mg_of X G aP, fun H => .inr ⟨_, _, _, lP, rfl, rfl, (by show 5 ≤ sizeLine; decide), .cons ⟨_, rfl⟩ (.cons ⟨_, rfl⟩ (.cons ⟨_, rfl⟩ (.cons ⟨_, rfl⟩ (.cons ⟨_, rfl⟩ .nil))))⟩⟩
  have ST : SpT K mg C := ⟨⟨pg, hd, po, sa⟩, nPr, nPl, nLe, nPu, PySem.W.mg_of X G aC⟩
  have F_hv := fun_mk (st := sHalved) l_hv c_hv k_hv
  have b_hv := F_hv.binds (ps := ["some"]) fun _ _ _ _ _ _ us hl => match us, hl with | [_], _ => rfl
  have F_wh := fun_mk (st := sIsWhole) l_wh c_wh k_wh
  have b_wh := F_wh.binds (ps := ["thing"]) fun _ _ _ _ _ _ us hl => match us, hl with | [_], _ => rfl
  have F_so := fun_mk (st := sSop) l_so c_so k_so
  have b_so := F_so.binds (ps := ["products"]) fun _ _ _ _ _ _ us hl => match us, hl with | [_], _ => rfl
  have F_dg := fun_mk (st := sDegrees) l_dg c_dg k_dg
  have b_dg := F_dg.binds (ps := ["some"]) fun _ _ _ _ _ _ us hl => match us, hl with | [_], _ => rfl
  have F_ow := fun_mk (st := sOddWays) l_ow c_ow k_ow
  have b_ow := F_ow.binds (ps := ["e", "k"]) fun _ _ _ _ _ _ us hl => match us, hl with | [_, _], _ => rfl
  have F_st := fun_mk (st := sSteps) l_st c_st k_st
  have b_st := F_st.binds (ps := ["e", "most"]) fun _ _ _ _ _ _ us hl => match us, hl with | [_, _], _ => rfl
  have F_rp := fun_mk (st := sRaisedProduct) l_rp c_rp k_rp
  have b_rp := F_rp.binds (ps := ["product", "k"]) fun _ _ _ _ _ _ us hl => match us, hl with | [_, _], _ => rfl
  have F_lr := fun_mk (st := sLookR) l_lr c_lr k_lr
  have b_lr := F_lr.binds (ps := ["k"]) fun _ _ _ _ _ _ us hl => match us, hl with | [_], _ => rfl
  have F_ra := fun_mk (st := sRaised) l_ra c_ra k_ra
  have b_ra := F_ra.binds (ps := ["some", "k"]) fun _ _ _ _ _ _ us hl => match us, hl with | [_, _], _ => rfl
  have F_ll := fun_mk (st := sLookL) l_ll c_ll k_ll
  have b_ll := F_ll.binds (ps := ["k"]) fun _ _ _ _ _ _ us hl => match us, hl with | [_], _ => rfl
  have F_in := fun_mk (st := sInit) l_in c_in k_in
  have b_in := F_in.binds (ps := ["self", "products"]) fun _ _ _ _ _ _ us hl => match us, hl with | [_, _], _ => rfl
  have m_in : Meth K C "__init__" f_in := ⟨a_in, i_in, k_in⟩
  have F_nu := fun_mk (st := sNumberOf) l_nu c_nu k_nu
  have b_nu := F_nu.binds (ps := ["self", "some"]) fun _ _ _ _ _ _ us hl => match us, hl with | [_, _], _ => rfl
  have m_nu : Meth K C "number_of" f_nu := ⟨a_nu, i_nu, k_nu⟩
  have F_le := fun_mk (st := sLeftOf) l_le c_le k_le
  have b_le := F_le.binds (ps := ["self", "number"]) fun _ _ _ _ _ _ us hl => match us, hl with | [_, _], _ => rfl
  have m_le : Meth K C "left_of" f_le := ⟨a_le, i_le, k_le⟩
  have F_pu := fun_mk (st := sPut) l_pu c_pu k_pu
  have b_pu := F_pu.binds (ps := ["self", "mark", "some"]) fun _ _ _ _ _ _ us hl => match us, hl with | [_, _, _], _ => rfl
  have m_pu : Meth K C "put" f_pu := ⟨a_pu, i_pu, k_pu⟩
  have F_ma := fun_mk (st := sMadeOf) l_ma c_ma k_ma
  have b_ma := F_ma.binds (ps := ["self", "some"]) fun _ _ _ _ _ _ us hl => match us, hl with | [_, _], _ => rfl
  have m_ma : Meth K C "made_of" f_ma := ⟨a_ma, i_ma, k_ma⟩
  have F_wi := fun_mk (st := sWithoutLead) l_wi c_wi k_wi
  have b_wi := F_wi.binds (ps := ["self"]) fun _ _ _ _ _ _ us hl => match us, hl with | [_], _ => rfl
  have m_wi : Meth K C "without_lead" f_wi := ⟨a_wi, i_wi, k_wi⟩
  have F_co := fun_mk (st := sCounted) l_co c_co k_co
  have b_co := F_co.binds (ps := ["n", "d"]) fun _ _ _ _ _ _ us hl => match us, hl with | [_, _], _ => rfl
  have F_ir := fun_mk (st := sIsRoom) l_ir c_ir k_ir
  have b_ir := F_ir.binds (ps := ["n", "d"]) fun _ _ _ _ _ _ us hl => match us, hl with | [_, _], _ => rfl
  have F_lo := fun_mk (st := sLookRoom) l_lo c_lo k_lo
  have b_lo := F_lo.binds (ps := ["n", "d"]) fun _ _ _ _ _ _ us hl => match us, hl with | [_, _], _ => rfl
  have F_al := fun_mk (st := sAllProducts) l_al c_al k_al
  have b_al := F_al.binds (ps := ["n", "d"]) fun _ _ _ _ _ _ us hl => match us, hl with | [_, _], _ => rfl
  have F_rs := fun_mk (st := sRaisedSpace) l_rs c_rs k_rs
  have b_rs := F_rs.binds (ps := ["n", "d"]) fun _ _ _ _ _ _ us hl => match us, hl with | [_, _], _ => rfl
  have F_od := fun_mk (st := sOneDegree) l_od c_od k_od
  have b_od := F_od.binds (ps := ["n", "some"]) fun _ _ _ _ _ _ us hl => match us, hl with | [_, _], _ => rfl
  have F_pa := fun_mk (st := sPairsOf) l_pa c_pa k_pa
  have b_pa := F_pa.binds (ps := ["told"]) fun _ _ _ _ _ _ us hl => match us, hl with | [_], _ => rfl
  have F_ju := fun_mk (st := sJudged) l_ju c_ju k_ju
  have b_ju := F_ju.binds (ps := ["n", "some"]) fun _ _ _ _ _ _ us hl => match us, hl with | [_, _], _ => rfl
  have F_sd := fun_mk (st := sStanding) l_sd c_sd k_sd
  have b_sd := F_sd.binds (ps := ["n", "d"]) fun _ _ _ _ _ _ us hl => match us, hl with | [_, _], _ => rfl
  have F_ro := fun_mk (st := sRowsCounted) l_ro c_ro k_ro
  have b_ro := F_ro.binds (ps := ["n", "d"]) fun _ _ _ _ _ _ us hl => match us, hl with | [_, _], _ => rfl
  have F_ba := fun_mk (st := sBag) l_ba c_ba k_ba
  have b_ba := F_ba.binds (ps := ["_law_script", "_law_at"]) fun _ _ _ _ _ _ us hl => match us, hl with | [_, _], _ => rfl
  have F_ta := fun_mk (st := sTake) l_ta c_ta k_ta
  have b_ta := F_ta.binds (ps := ["_law_bag_here", "_law_many"]) fun _ _ _ _ _ _ us hl => match us, hl with | [_, _], _ => rfl
  have F_ld := fun_mk (st := sOdd) l_ld c_ld k_ld
  have b_ld := F_ld.binds (ps := ["_law_things"]) fun _ _ _ _ _ _ us hl => match us, hl with | [_], _ => rfl
  have F_of := fun_mk (st := sOfDegree) l_of c_of k_of
  have b_of := F_of.binds (ps := ["_law_bag_here", "_law_n", "_law_d"]) fun _ _ _ _ _ _ us hl => match us, hl with | [_, _, _], _ => rfl
  have F_su := fun_mk (st := sSumOf) l_su c_su k_su
  have b_su := F_su.binds (ps := ["_law_bag_here", "_law_n", "_law_d", "_law_many"]) fun _ _ _ _ _ _ us hl => match us, hl with | [_, _, _, _], _ => rfl
  have F_lw := fun_mk (st := sLawRaised) l_lw c_lw k_lw
  have b_lw := F_lw.binds (ps := ["_law_some_here", "_law_k"]) fun _ _ _ _ _ _ us hl => match us, hl with | [_, _], _ => rfl
  have F_sm := fun_mk (st := sSome) l_sm c_sm k_sm
  have b_sm := F_sm.binds (ps := ["_law_bag_here", "_law_n", "_law_d"]) fun _ _ _ _ _ _ us hl => match us, hl with | [_, _, _], _ => rfl
  have F_la := fun_mk (st := sLaw) l_la c_la k_la
  have b_la := F_la.binds (ps := ["_law_script"]) fun _ _ _ _ _ _ us hl => match us, hl with | [_], _ => rfl
  refine ⟨PySem.W.fnOf "law" "law" (defArgs sLaw) (defBody sLaw) (defScope sLaw) .none kV_la dc_la pm_la an_la cd_la ct_la, fun s v => .of_eq rfl, fun base _ _ => ?_⟩
  have C_wh : Cal l.prog w K mg base 1 "is_whole" ["thing"] spWhole := ⟨f_wh, _, ok_whole F_wh T, PySem.W.mg_of X G a_wh, k_wh, b_wh⟩
  have C_hv : Cal l.prog w K mg base 1 "halved" ["some"] spHalved := ⟨f_hv, _, ok_halved F_hv T, PySem.W.mg_of X G a_hv, k_hv, b_hv⟩
  have C_so : Cal l.prog w K mg base 1 "sum_of_products" ["products"] spSop := ⟨f_so, _, ok_sop F_so T, PySem.W.mg_of X G a_so, k_so, b_so⟩
  have C_dg : Cal l.prog w K mg base 1 "degrees" ["some"] spDegrees := ⟨f_dg, _, ok_degrees F_dg T, PySem.W.mg_of X G a_dg, k_dg, b_dg⟩
  have C_ow : Cal l.prog w K mg base 1 "odd_ways" ["e", "k"] spOddWays := ⟨f_ow, _, ok_oddWays F_ow, PySem.W.mg_of X G a_ow, k_ow, b_ow⟩
  have C_st : Cal l.prog w K mg base 2 "steps_of" ["e", "most"] spSteps := ⟨f_st, _, ok_steps F_st T C_ow, PySem.W.mg_of X G a_st, k_st, b_st⟩
  have C_rp : Cal l.prog w K mg base 3 "raised_product" ["product", "k"] spRaisedProduct := ⟨f_rp, _, ok_raisedProduct F_rp T C_st, PySem.W.mg_of X G a_rp, k_rp, b_rp⟩
  have C_lr : Cal l.prog w K mg base 2 "look_part_raising" ["k"] spLook := ⟨f_lr, _, ok_lookR F_lr C_wh, PySem.W.mg_of X G a_lr, k_lr, b_lr⟩
  have C_ll : Cal l.prog w K mg base 2 "look_part_lowering" ["k"] spLook := ⟨f_ll, _, ok_lookL F_ll C_wh, PySem.W.mg_of X G a_ll, k_ll, b_ll⟩
  have C_ra : Cal l.prog w K mg base 4 "raised" ["some", "k"] spRaised := ⟨f_ra, _, ok_raised F_ra C_lr C_rp C_so, PySem.W.mg_of X G a_ra, k_ra, b_ra⟩
  have GI : FnOk l.prog w K mg base CX0 1 f_in _ ["self", "products"] (spInit C) := ok_init F_in T ST
  have GN : FnOk l.prog w K mg base CX0 1 f_nu _ ["self", "some"] (spNumberOf C) := ok_numberOf F_nu T ST
  have GL : FnOk l.prog w K mg base CX0 1 f_le _ ["self", "number"] (spLeftOf C) := ok_leftOf F_le T ST
  have GP : FnOk l.prog w K mg base CX0 2 f_pu _ ["self", "mark", "some"] (spPut C) := ok_put F_pu T ST m_nu GN b_nu m_le GL b_le
  have GM : FnOk l.prog w K mg base CX0 2 f_ma _ ["self", "some"] (spMadeOf C) := ok_madeOf F_ma T ST m_nu GN b_nu m_le GL b_le
  have GW : FnOk l.prog w K mg base CX0 1 f_wi _ ["self"] (spWithoutLead C) := ok_withoutLead F_wi T ST
  have C_co : Cal l.prog w K mg base 1 "products_counted" ["n", "d"] spCounted := ⟨f_co, _, ok_counted F_co T, PySem.W.mg_of X G a_co, k_co, b_co⟩
  have C_ir : Cal l.prog w K mg base 2 "is_room" ["n", "d"] spRoom := ⟨f_ir, _, ok_isRoom F_ir N C_co, PySem.W.mg_of X G a_ir, k_ir, b_ir⟩
  have C_lo : Cal l.prog w K mg base 3 "look_room" ["n", "d"] spLookRoom := ⟨f_lo, _, ok_lookRoom F_lo C_ir, PySem.W.mg_of X G a_lo, k_lo, b_lo⟩
  have C_al : Cal l.prog w K mg base 5 "all_products" ["n", "d"] (spAll 5) := ⟨f_al, _, ok_all F_al T (PySem.W.mg_of X G a_al) b_al 5, PySem.W.mg_of X G a_al, k_al, b_al⟩
  have C_rs : Cal l.prog w K mg base 6 "raised_space" ["n", "d"] (spRaisedSpace C) := ⟨f_rs, _, ok_raisedSpace F_rs ST ⟨mk, a_in, i_in, kc⟩ GI b_in m_pu GP b_pu PT' C_al C_ra, PySem.W.mg_of X G a_rs, k_rs, b_rs⟩
  have C_od : Cal l.prog w K mg base 4 "one_degree" ["n", "some"] spOneDegree := ⟨f_od, _, ok_oneDegree F_od T C_dg C_lo, PySem.W.mg_of X G a_od, k_od, b_od⟩
  have C_pa : Cal l.prog w K mg base 1 "pairs_of" ["told"] spPairsOf := ⟨f_pa, _, ok_pairsOf F_pa T PT', PySem.W.mg_of X G a_pa, k_pa, b_pa⟩
  have C_ju : Cal l.prog w K mg base 7 "judged" ["n", "some"] spJudged := ⟨f_ju, _, ok_judged F_ju T ST m_ma GM b_ma C_rs C_od C_pa, PySem.W.mg_of X G a_ju, k_ju, b_ju⟩
  have C_sd : Cal l.prog w K mg base 7 "standing" ["n", "d"] spStanding := ⟨f_sd, _, ok_standing F_sd ST m_wi GW b_wi C_rs C_ll C_lo, PySem.W.mg_of X G a_sd, k_sd, b_sd⟩
  have C_ro : Cal l.prog w K mg base 8 "rows_counted" ["n", "d"] spRows := ⟨f_ro, _, ok_rows F_ro T C_sd, PySem.W.mg_of X G a_ro, k_ro, b_ro⟩
  have C_ba : Cal l.prog w K mg base 1 "_law_bag" ["_law_script", "_law_at"] (spBag K) := ⟨f_ba, _, ok_bag F_ba T, PySem.W.mg_of X G a_ba, k_ba, b_ba⟩
  have C_ta : Cal l.prog w K mg base 1 "_law_take" ["_law_bag_here", "_law_many"] spTake := ⟨f_ta, _, ok_take F_ta, PySem.W.mg_of X G a_ta, k_ta, b_ta⟩
  have C_ld : Cal l.prog w K mg base 1 "_law_odd" ["_law_things"] spSop := ⟨f_ld, _, ok_odd F_ld T, PySem.W.mg_of X G a_ld, k_ld, b_ld⟩
  have C_of : Cal l.prog w K mg base 2 "_law_of_degree" ["_law_bag_here", "_law_n", "_law_d"] spOfDegree := ⟨f_of, _, ok_ofDegree F_of T C_ta, PySem.W.mg_of X G a_of, k_of, b_of⟩
  have C_su : Cal l.prog w K mg base 3 "_law_sum_of" ["_law_bag_here", "_law_n", "_law_d", "_law_many"] spSumOf := ⟨f_su, _, ok_sumOf F_su T C_ta C_of C_ld, PySem.W.mg_of X G a_su, k_su, b_su⟩
  have C_lw : Cal l.prog w K mg base 2 "_law_raised" ["_law_some_here", "_law_k"] spRaised := ⟨f_lw, _, ok_lawRaised F_lw T C_ld, PySem.W.mg_of X G a_lw, k_lw, b_lw⟩
  have C_sm : Cal l.prog w K mg base 4 "_law_some" ["_law_bag_here", "_law_n", "_law_d"] spSome := ⟨f_sm, _, ok_some F_sm T C_ta C_of C_ld C_su, PySem.W.mg_of X G a_sm, k_sm, b_sm⟩
  exact ok_law F_la T C_ba C_ta C_sm C_lw C_hv C_ju C_ro
end Rz
open PySem PySem.W PyProof.Rows in
set_option maxRecDepth 100000 in
set_option maxHeartbeats 0 in
theorem PySem.Challenge.cw_raisedsums_k62_whole_halving_holds : PySem.Challenge.rw_raisedsums_k62_whole_halving.Holds := by
  w_on; o_law; k_head; (case hw => w_witness2)
  k_fill
  refine L2.walk_of (l := PySem.Challenge.rw_raisedsums_k62_whole_halving) (n := 63) (k := 9) (x := "_law_script") (CX := fun _ => L2.CX0) (sp := fun w => Rz.spLaw _) rfl (by decide) rfl ⟨rfl, by decide, by decide⟩ (fun w h Y => PySem.W.kIn_of Y) ?F (fun _ _ a ns hl _ hS => ⟨a, ns, rfl, hS, hl, fun _ => rfl⟩) (fun _ _ _ _ _ z => z)
  case F =>
    intro w mg fa h KX G hmg
    refine' Rz.all_mk KX G hmg ?aC ?a_hv ?l_hv ?c_hv ?k_hv ?a_wh ?l_wh ?c_wh ?k_wh ?a_so ?l_so ?c_so ?k_so ?a_dg ?l_dg ?c_dg ?k_dg ?a_ow ?l_ow ?c_ow ?k_ow ?a_st ?l_st ?c_st ?k_st ?a_rp ?l_rp ?c_rp ?k_rp ?a_lr ?l_lr ?c_lr ?k_lr ?a_ra ?l_ra ?c_ra ?k_ra ?a_ll ?l_ll ?c_ll ?k_ll ?a_in ?i_in ?l_in ?c_in ?k_in ?a_nu ?i_nu ?l_nu ?c_nu ?k_nu ?a_le ?i_le ?l_le ?c_le ?k_le ?a_pu ?i_pu ?l_pu ?c_pu ?k_pu ?a_ma ?i_ma ?l_ma ?c_ma ?k_ma ?a_wi ?i_wi ?l_wi ?c_wi ?k_wi ?a_co ?l_co ?c_co ?k_co ?a_ir ?l_ir ?c_ir ?k_ir ?a_lo ?l_lo ?c_lo ?k_lo ?a_al ?l_al ?c_al ?k_al ?a_rs ?l_rs ?c_rs ?k_rs ?a_od ?l_od ?c_od ?k_od ?a_pa ?l_pa ?c_pa ?k_pa ?a_ju ?l_ju ?c_ju ?k_ju ?a_sd ?l_sd ?c_sd ?k_sd ?a_ro ?l_ro ?c_ro ?k_ro ?a_ba ?l_ba ?c_ba ?k_ba ?a_ta ?l_ta ?c_ta ?k_ta ?a_ld ?l_ld ?c_ld ?k_ld ?a_of ?l_of ?c_of ?k_of ?a_su ?l_su ?c_su ?k_su ?a_lw ?l_lw ?c_lw ?k_lw ?a_sm ?l_sm ?c_sm ?k_sm ?a_la ?l_la ?c_la ?k_la ?pg ?hd ?po ?sa ?mk ?kc ?nPr ?nPl ?nLe ?nPu ?z_all ?z_tuple ?z_sorted ?z_sum ?z_set ?z_isinstance ?z_int ?z_bool ?z_range ?z_min ?z_max ?z_len ?z_abs ?z_list ?z_enumerate ?v_prods ?v_few ?v_deg ?v_degM ?aP ?lP
    (case aC => k_is)
    (case a_hv => k_is)
    (case l_hv => k_is)
    (case c_hv => k_is)
    (case k_hv => k_is)
    (case a_wh => k_is)
    (case l_wh => k_is)
    (case c_wh => k_is)
    (case k_wh => k_is)
    (case a_so => k_is)
    (case l_so => k_is)
    (case c_so => k_is)
    (case k_so => k_is)
    (case a_dg => k_is)
    (case l_dg => k_is)
    (case c_dg => k_is)
    (case k_dg => k_is)
    (case a_ow => k_is)
    (case l_ow => k_is)
    (case c_ow => k_is)
    (case k_ow => k_is)
    (case a_st => k_is)
    (case l_st => k_is)
    (case c_st => k_is)
    (case k_st => k_is)
    (case a_rp => k_is)
    (case l_rp => k_is)
    (case c_rp => k_is)
    (case k_rp => k_is)
    (case a_lr => k_is)
    (case l_lr => k_is)
    (case c_lr => k_is)
    (case k_lr => k_is)
    (case a_ra => k_is)
    (case l_ra => k_is)
    (case c_ra => k_is)
    (case k_ra => k_is)
    (case a_ll => k_is)
    (case l_ll => k_is)
    (case c_ll => k_is)
    (case k_ll => k_is)
    (case a_in => k_is)
    (case i_in => k_is)
    (case l_in => k_is)
    (case c_in => k_is)
    (case k_in => k_is)
    (case a_nu => k_is)
    (case i_nu => k_is)
    (case l_nu => k_is)
    (case c_nu => k_is)
    (case k_nu => k_is)
    (case a_le => k_is)
    (case i_le => k_is)
    (case l_le => k_is)
    (case c_le => k_is)
    (case k_le => k_is)
    (case a_pu => k_is)
    (case i_pu => k_is)
    (case l_pu => k_is)
    (case c_pu => k_is)
    (case k_pu => k_is)
    (case a_ma => k_is)
    (case i_ma => k_is)
    (case l_ma => k_is)
    (case c_ma => k_is)
    (case k_ma => k_is)
    (case a_wi => k_is)
    (case i_wi => k_is)
    (case l_wi => k_is)
    (case c_wi => k_is)
    (case k_wi => k_is)
    (case a_co => k_is)
    (case l_co => k_is)
    (case c_co => k_is)
    (case k_co => k_is)
    (case a_ir => k_is)
    (case l_ir => k_is)
    (case c_ir => k_is)
    (case k_ir => k_is)
    (case a_lo => k_is)
    (case l_lo => k_is)
    (case c_lo => k_is)
    (case k_lo => k_is)
    (case a_al => k_is)
    (case l_al => k_is)
    (case c_al => k_is)
    (case k_al => k_is)
    (case a_rs => k_is)
    (case l_rs => k_is)
    (case c_rs => k_is)
    (case k_rs => k_is)
    (case a_od => k_is)
    (case l_od => k_is)
    (case c_od => k_is)
    (case k_od => k_is)
    (case a_pa => k_is)
    (case l_pa => k_is)
    (case c_pa => k_is)
    (case k_pa => k_is)
    (case a_ju => k_is)
    (case l_ju => k_is)
    (case c_ju => k_is)
    (case k_ju => k_is)
    (case a_sd => k_is)
    (case l_sd => k_is)
    (case c_sd => k_is)
    (case k_sd => k_is)
    (case a_ro => k_is)
    (case l_ro => k_is)
    (case c_ro => k_is)
    (case k_ro => k_is)
    (case a_ba => k_is)
    (case l_ba => k_is)
    (case c_ba => k_is)
    (case k_ba => k_is)
    (case a_ta => k_is)
    (case l_ta => k_is)
    (case c_ta => k_is)
    (case k_ta => k_is)
    (case a_ld => k_is)
    (case l_ld => k_is)
    (case c_ld => k_is)
    (case k_ld => k_is)
    (case a_of => k_is)
    (case l_of => k_is)
    (case c_of => k_is)
    (case k_of => k_is)
    (case a_su => k_is)
    (case l_su => k_is)
    (case c_su => k_is)
    (case k_su => k_is)
    (case a_lw => k_is)
    (case l_lw => k_is)
    (case c_lw => k_is)
    (case k_lw => k_is)
    (case a_sm => k_is)
    (case l_sm => k_is)
    (case c_sm => k_is)
    (case k_sm => k_is)
    (case a_la => k_is)
    (case l_la => k_is)
    (case c_la => k_is)
    (case k_la => k_is)
    (case pg => k_is)
    (case hd => k_is)
    (case po => k_is)
    (case sa => k_is)
    (case mk => k_is)
    (case kc => k_is)
    (case nPr => k_is)
    (case nPl => k_is)
    (case nLe => k_is)
    (case nPu => k_is)
    (case z_all => k_is)
    (case z_tuple => k_is)
    (case z_sorted => k_is)
    (case z_sum => k_is)
    (case z_set => k_is)
    (case z_isinstance => k_is)
    (case z_int => k_is)
    (case z_bool => k_is)
    (case z_range => k_is)
    (case z_min => k_is)
    (case z_max => k_is)
    (case z_len => k_is)
    (case z_abs => k_is)
    (case z_list => k_is)
    (case z_enumerate => k_is)
    (case v_prods => k_is)
    (case v_few => k_is)
    (case v_deg => k_is)
    (case v_degM => k_is)
    (case aP => k_is)
    (case lP => k_is)
