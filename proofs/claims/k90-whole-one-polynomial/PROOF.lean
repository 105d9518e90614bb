import PyProof.Rows.All
import Wide.All
import OpenK.AllK
import Wide.FinOn
import HandS.ForMost
import HandS.Defaults
import HandS.Head0
import HandS.Head1
import HandS.Head2
import HandS.HeadEnd
import HandS.HeadHook1
import HandS.HeadHook2
import HandS.HeadHook3
import HandS.HeadHook4
import HandS.HeadWalk
import PySem.Challenge.RW_yesnowords_k90_whole_one_polynomial
import HandS.IsInst
import HandS.TupAny
import HandS.Zip
import HandS.Conv
import HandS.Style
import HandS.SortKw
import HandS.Lambda
import HandS.Wide
import HandS.TupLe
import HandS.WideBits
import KE.KMinKey
import PyProof.WalkInts
import KE.LtData
import KE.SortKeyHeap
import KE.SortData
import KE.KDictKeyed
import KE.KDictLaw
import PyProof.Rows.SeqRoads
import HandS.Walk
set_option maxRecDepth 100000
set_option maxHeartbeats 1000000
namespace YN
/-! ### bit functions and their transform -/
abbrev BF := Nat → Bool
def T (l : Nat) (f : BF) : BF := fun p => if p.testBit l = true then (f p).xor (f (p ^^^ 2 ^ l)) else f p
def ZF : Nat → BF → BF
  | 0, f => f
  | k + 1, f => T k (ZF k f)
def xf (f g : BF) : BF := fun p => (f p).xor (g p)

theorem tb_flip (p l i : Nat) : (p ^^^ 2 ^ l).testBit i = (p.testBit i).xor (decide (l = i)) := by
  rw [Nat.testBit_xor, Nat.testBit_two_pow]
theorem flip_flip (p l : Nat) : (p ^^^ 2 ^ l) ^^^ 2 ^ l = p := by
  apply Nat.eq_of_testBit_eq; intro i
  rw [tb_flip, tb_flip]; cases p.testBit i <;> cases decide (l = i) <;> rfl
theorem flip_comm (p l j : Nat) : (p ^^^ 2 ^ l) ^^^ 2 ^ j = (p ^^^ 2 ^ j) ^^^ 2 ^ l := by
  apply Nat.eq_of_testBit_eq; intro i
  rw [tb_flip, tb_flip, tb_flip, tb_flip]; cases p.testBit i <;> cases decide (l = i) <;> cases decide (j = i) <;> rfl
theorem flip_self (p l : Nat) : (p ^^^ 2 ^ l).testBit l = !p.testBit l := by
  rw [tb_flip]; simp
theorem flip_other {p l j : Nat} (h : l ≠ j) : (p ^^^ 2 ^ l).testBit j = p.testBit j := by
  rw [tb_flip, decide_eq_false h]; cases p.testBit j <;> rfl
theorem flip_lt {p l m : Nat} (hp : p < 2 ^ m) (hl : l < m) : p ^^^ 2 ^ l < 2 ^ m :=
  Nat.xor_lt_two_pow hp (Nat.pow_lt_pow_right (by decide) hl)

theorem T_T (l : Nat) (f : BF) : T l (T l f) = f := by
  funext p
  unfold T
  by_cases h : p.testBit l = true
  · rw [if_pos h, if_pos h, flip_self, h]
    simp
  · rw [if_neg h, if_neg h]
theorem T_comm {l j : Nat} (h : l ≠ j) (f : BF) : T l (T j f) = T j (T l f) := by
  funext p
  unfold T
  rw [flip_other h, flip_other (Ne.symm h), flip_comm p l j]
  cases p.testBit l <;> cases p.testBit j <;> simp
  cases f p <;> cases f (p ^^^ 2 ^ j) <;> cases f (p ^^^ 2 ^ l) <;> cases f ((p ^^^ 2 ^ j) ^^^ 2 ^ l) <;> rfl
theorem T_ZF {k : Nat} : ∀ {j : Nat}, j ≤ k → ∀ f : BF, T k (ZF j f) = ZF j (T k f)
  | 0, _, _ => rfl
  | j + 1, h, f => by
    show T k (T j (ZF j f)) = T j (ZF j (T k f))
    rw [T_comm (by omega), T_ZF (by omega) f]
theorem ZF_ZF : ∀ (k : Nat) (f : BF), ZF k (ZF k f) = f
  | 0, _ => rfl
  | k + 1, f => by
    show T k (ZF k (T k (ZF k f))) = f
    rw [← T_ZF (Nat.le_refl k), T_T, ZF_ZF k f]
theorem T_xf (l : Nat) (f g : BF) : T l (xf f g) = xf (T l f) (T l g) := by
  funext p
  unfold T xf
  by_cases h : p.testBit l = true
  · simp only [if_pos h]
    cases f p <;> cases g p <;> cases f (p ^^^ 2 ^ l) <;> cases g (p ^^^ 2 ^ l) <;> rfl
  · simp only [if_neg h]
theorem ZF_xf : ∀ (k : Nat) (f g : BF), ZF k (xf f g) = xf (ZF k f) (ZF k g)
  | 0, _, _ => rfl
  | k + 1, f, g => by
    show T k (ZF k (xf f g)) = _
    rw [ZF_xf k, T_xf] <;> rfl
/-- only the places below 2 ^ m matter there -/
theorem ZF_congr {m : Nat} {f g : BF} (h : ∀ p, p < 2 ^ m → f p = g p) : ∀ k, k ≤ m → ∀ p, p < 2 ^ m → ZF k f p = ZF k g p
  | 0, _, p, hp => h p hp
  | k + 1, hk, p, hp => by
    show T k (ZF k f) p = T k (ZF k g) p
    unfold T
    rw [ZF_congr h k (by omega) p hp, ZF_congr h k (by omega) (p ^^^ 2 ^ k) (flip_lt hp (by omega))]
/-- a single place -/
def dl (q : Nat) : BF := fun p => decide (p = q)
/-- q lies below p by the letters under k, is like p in the others -/
def Sub (k q p : Nat) : Prop := ∀ i, if i < k then (q.testBit i = true → p.testBit i = true) else q.testBit i = p.testBit i
theorem ZF_dl (q : Nat) : ∀ (k p : Nat), ZF k (dl q) p = true ↔ Sub k q p
  | 0, p => by
    show decide (p = q) = true ↔ _
    rw [decide_eq_true_iff]
    constructor
    · rintro rfl i
      rw [if_neg (Nat.not_lt_zero i)]
    · intro h
      refine Nat.eq_of_testBit_eq fun i => ?_
      have := h i
      rw [if_neg (Nat.not_lt_zero i)] at this
      exact this.symm
  | k + 1, p => by
    show T k (ZF k (dl q)) p = true ↔ _
    have e1 := ZF_dl q k p
    have e2 := ZF_dl q k (p ^^^ 2 ^ k)
    have out : Sub k q p → q.testBit k = p.testBit k := fun h => by have := h k; rwa [if_neg (Nat.lt_irrefl k)] at this
    have out2 : Sub k q (p ^^^ 2 ^ k) → q.testBit k = !p.testBit k := fun h => by have := h k; rwa [if_neg (Nat.lt_irrefl k), flip_self] at this
    have up : Sub k q p → Sub (k + 1) q p := fun h i => by
      have := h i
      by_cases hi : i < k
      · rw [if_pos hi] at this; rw [if_pos (by omega)]; exact this
      · rw [if_neg hi] at this
        by_cases hi2 : i < k + 1
        · rw [if_pos hi2, this]; exact id
        · rw [if_neg hi2]; exact this
    have up2 : p.testBit k = true → Sub k q (p ^^^ 2 ^ k) → Sub (k + 1) q p := fun hb h i => by
      have := h i
      by_cases hi : i < k
      · rw [if_pos hi, flip_other (by omega)] at this; rw [if_pos (by omega)]; exact this
      · rw [if_neg hi] at this
        by_cases hi2 : i < k + 1
        · have : i = k := by omega
          subst this
          rw [if_pos hi2]; exact fun _ => hb
        · rw [flip_other (by omega)] at this; rw [if_neg hi2]; exact this
    have dn : Sub (k + 1) q p → q.testBit k = p.testBit k → Sub k q p := fun h hb i => by
      have := h i
      by_cases hi : i < k
      · rw [if_pos (by omega)] at this; rw [if_pos hi]; exact this
      · rw [if_neg hi]
        by_cases hi2 : i = k
        · subst hi2; exact hb
        · rw [if_neg (by omega)] at this; exact this
    have dn2 : Sub (k + 1) q p → q.testBit k = !p.testBit k → Sub k q (p ^^^ 2 ^ k) := fun h hb i => by
      have := h i
      by_cases hi : i < k
      · rw [if_pos (by omega)] at this; rw [if_pos hi, flip_other (by omega)]; exact this
      · rw [if_neg hi]
        by_cases hi2 : i = k
        · subst hi2; rw [flip_self]; exact hb
        · rw [if_neg (by omega)] at this; rw [flip_other (by omega)]; exact this
    unfold T
    by_cases hb : p.testBit k = true
    · rw [if_pos hb]
      constructor
      · intro h
        by_cases h1 : ZF k (dl q) p = true
        · exact up (e1.mp h1)
        · rw [Bool.not_eq_true] at h1
          rw [h1, Bool.false_xor] at h
          exact up2 hb (e2.mp h)
      · intro h
        cases hq : q.testBit k with
        | true =>
          have h1 : ZF k (dl q) p = true := e1.mpr (dn h (by rw [hq, hb]))
          have h2 : ZF k (dl q) (p ^^^ 2 ^ k) = false := by
            rw [← Bool.not_eq_true]
            intro z
            have := out2 (e2.mp z)
            rw [hq, hb] at this; cases this
          rw [h1, h2]; rfl
        | false =>
          have h1 : ZF k (dl q) (p ^^^ 2 ^ k) = true := e2.mpr (dn2 h (by rw [hq, hb]; rfl))
          have h2 : ZF k (dl q) p = false := by
            rw [← Bool.not_eq_true]
            intro z
            have := out (e1.mp z)
            rw [hq, hb] at this; cases this
          rw [h1, h2]; rfl
    · rw [if_neg hb, e1]
      refine ⟨up, fun h => dn h ?_⟩
      rw [Bool.not_eq_true] at hb
      have := h k
      rw [if_pos (Nat.lt_succ_self k), hb] at this
      rw [hb]
      cases hq : q.testBit k with
      | true => exact absurd (this hq) (by decide)
      | false => rfl
/-- q's letters are letters of p -/
def bel (q p : Nat) : Bool := q &&& p == q
theorem bel_iff (q p : Nat) : bel q p = true ↔ ∀ i, q.testBit i = true → p.testBit i = true := by
  unfold bel
  rw [beq_iff_eq]
  constructor
  · intro h i hi
    have := congrArg (fun n => n.testBit i) h
    simp only [Nat.testBit_and, hi, Bool.true_and] at this
    exact this
  · intro h
    refine Nat.eq_of_testBit_eq fun i => ?_
    rw [Nat.testBit_and]
    cases hq : q.testBit i with
    | true => rw [h i hq]; rfl
    | false => rfl
theorem ZF_bel {m q p : Nat} (hq : q < 2 ^ m) (hp : p < 2 ^ m) : ZF m (dl q) p = bel q p := by
  have e : ZF m (dl q) p = true ↔ bel q p = true := by
    rw [ZF_dl, bel_iff]
    constructor
    · intro h i hi
      have := h i
      by_cases hm : i < m
      · rw [if_pos hm] at this; exact this hi
      · rw [if_neg hm] at this; rw [← this]; exact hi
    · intro h i
      by_cases hm : i < m
      · rw [if_pos hm]; exact h i
      · rw [if_neg hm, Nat.testBit_lt_two_pow (Nat.lt_of_lt_of_le hq (Nat.pow_le_pow_right (by decide) (by omega))), Nat.testBit_lt_two_pow (Nat.lt_of_lt_of_le hp (Nat.pow_le_pow_right (by decide) (by omega)))]
  cases h1 : ZF m (dl q) p <;> cases h2 : bel q p <;> rw [h1, h2] at e <;> simp_all
/-! ### xor over a list -/
def xs {α : Type} (g : α → Bool) : List α → Bool
  | [] => false
  | a :: r => (g a).xor (xs g r)
theorem xs_append {α : Type} (g : α → Bool) : ∀ l r : List α, xs g (l ++ r) = (xs g l).xor (xs g r)
  | [], r => by simp [xs]
  | a :: l, r => by simp only [List.cons_append, xs, xs_append g l r, Bool.xor_assoc]
theorem xs_map {α β : Type} (g : β → Bool) (f : α → β) : ∀ l : List α, xs g (l.map f) = xs (fun a => g (f a)) l
  | [] => rfl
  | a :: l => by simp only [List.map_cons, xs, xs_map g f l]
theorem xs_congr {α : Type} {f g : α → Bool} : ∀ {l : List α}, (∀ a ∈ l, f a = g a) → xs f l = xs g l
  | [], _ => rfl
  | a :: l, h => by simp only [xs]; rw [h a List.mem_cons_self, xs_congr fun b hb => h b (List.mem_cons_of_mem _ hb)]
theorem xs_perm {α : Type} (g : α → Bool) {l r : List α} (h : l.Perm r) : xs g l = xs g r := by
  induction h with
  | nil => rfl
  | cons a _ ih => simp only [xs, ih]
  | swap a b l => simp only [xs]; cases g a <;> cases g b <;> cases xs g l <;> rfl
  | trans _ _ h1 h2 => exact h1.trans h2
theorem xs_false {α : Type} {g : α → Bool} : ∀ {l : List α}, (∀ a ∈ l, g a = false) → xs g l = false
  | [], _ => rfl
  | a :: l, h => by simp only [xs]; rw [h a List.mem_cons_self, xs_false fun b hb => h b (List.mem_cons_of_mem _ hb)]; rfl
theorem xs_and {α : Type} (c : Bool) (g : α → Bool) : ∀ l : List α, xs (fun a => c && g a) l = (c && xs g l)
  | [] => by cases c <;> rfl
  | a :: l => by simp only [xs, xs_and c g l]; cases c <;> rfl
theorem xs_count {α : Type} (g : α → Bool) : ∀ l : List α, xs g l = decide ((l.filter g).length % 2 = 1)
  | [] => rfl
  | a :: l => by
    simp only [xs, xs_count g l, List.filter_cons]
    cases g a with
    | false => simp
    | true =>
      simp only [if_true, List.length_cons, Bool.true_xor]
      rcases Nat.mod_two_eq_zero_or_one (l.filter g).length with h | h
      · rw [h, decide_eq_true (show ((l.filter g).length + 1) % 2 = 1 by omega)]; rfl
      · rw [h, decide_eq_false (show ¬ ((l.filter g).length + 1) % 2 = 1 by omega)]; rfl
/-- xor over the keys that stand an odd number of times -/
theorem xs_one {α : Type} [DecidableEq α] (g : α → Bool) (a : α) : ∀ {l : List α}, l.Nodup → a ∈ l → xs (fun k => g k && decide (k = a)) l = g a
  | [], _, h => by cases h
  | b :: l, nd, h => by
    rw [List.nodup_cons] at nd
    simp only [xs]
    by_cases e : b = a
    · subst e
      rw [xs_false (g := fun k => g k && decide (k = b)) fun c hc => by
        have hn : ¬ c = b := fun z => nd.1 (by rw [← z]; exact hc)
        rw [decide_eq_false hn, Bool.and_false]]
      simp
    · rw [decide_eq_false e, Bool.and_false, Bool.false_xor]
      exact xs_one g a nd.2 ((List.mem_cons.mp h).resolve_left fun z => e z.symm)
theorem xs_two {α : Type} (f g : α → Bool) : ∀ l : List α, xs (fun a => (f a).xor (g a)) l = (xs f l).xor (xs g l)
  | [] => rfl
  | a :: l => by simp only [xs, xs_two f g l]; cases f a <;> cases g a <;> cases xs f l <;> cases xs g l <;> rfl
theorem odd_succ (n : Nat) : decide ((n + 1) % 2 = 1) = !decide (n % 2 = 1) := by
  rcases Nat.mod_two_eq_zero_or_one n with h | h
  · rw [decide_eq_true (show (n + 1) % 2 = 1 by omega), decide_eq_false (show ¬ n % 2 = 1 by omega)]; rfl
  · rw [decide_eq_false (show ¬ (n + 1) % 2 = 1 by omega), decide_eq_true h]; rfl
theorem xs_keys {α : Type} [BEq α] [LawfulBEq α] [DecidableEq α] (g : α → Bool) {keys : List α} (nd : keys.Nodup) : ∀ {l : List α}, (∀ a ∈ l, a ∈ keys) → xs (fun k => g k && decide (l.count k % 2 = 1)) keys = xs g l
  | [], _ => xs_false fun k _ => by simp
  | a :: l, h => by
    have ih := xs_keys g nd (l := l) fun b hb => h b (List.mem_cons_of_mem _ hb)
    simp only [xs]
    rw [← ih, ← xs_one g a nd (h a List.mem_cons_self), ← xs_two]
    refine xs_congr fun k _ => ?_
    rw [List.count_cons]
    by_cases e : k = a
    · subst e
      simp only [beq_self_eq_true, if_true, decide_true, Bool.and_true, odd_succ]
      cases g k <;> cases decide (List.count k l % 2 = 1) <;> rfl
    · have e2 : (a == k) = false := by rw [beq_eq_false_iff_ne]; exact fun z => e z.symm
      simp only [e2, decide_eq_false e, Bool.and_false, Bool.false_xor]
      simp
theorem xs_filter {α : Type} (g t : α → Bool) : ∀ l : List α, xs g (l.filter t) = xs (fun k => g k && t k) l
  | [] => rfl
  | a :: l => by
    rw [List.filter_cons]
    cases h : t a with
    | true => simp only [if_true, xs, xs_filter g t l, h, Bool.and_true]
    | false => simp only [Bool.false_eq_true, if_false, xs, xs_filter g t l, h, Bool.and_false, Bool.false_xor]
end YN
set_option maxRecDepth 100000
set_option maxHeartbeats 1000000
namespace YN
/-! ### words -/
/-- the word that says yes where letter l is no -/
def wo (m l : Nat) : Nat := ((List.range (2 ^ (m - l - 1))).map fun i => (2 ^ 2 ^ l - 1) * 2 ^ (i * 2 ^ (l + 1))).sum
def woOk (m l : Nat) : Bool := decide (wo m l < 2 ^ 2 ^ m) && (List.range 64).all fun q => (wo m l).testBit q == (decide (q < 2 ^ m) && !q.testBit l)
theorem wo_all : ((List.range 7).all fun m => (List.range m).all fun l => woOk m l) = true := by decide +kernel
theorem wo_ok {m l : Nat} (hm : m ≤ 6) (hl : l < m) : woOk m l = true := by
  have h := List.all_eq_true.mp wo_all m (List.mem_range.mpr (by omega))
  exact List.all_eq_true.mp h l (List.mem_range.mpr hl)
theorem pow_le64 {m : Nat} (hm : m ≤ 6) : 2 ^ m ≤ 64 := Nat.pow_le_pow_right (by decide) hm
theorem wo_lt {m l : Nat} (hm : m ≤ 6) (hl : l < m) : wo m l < 2 ^ 2 ^ m := by
  have h := wo_ok hm hl
  unfold woOk at h
  rw [Bool.and_eq_true, decide_eq_true_iff] at h
  exact h.1
theorem wo_bit {m l q : Nat} (hm : m ≤ 6) (hl : l < m) : (wo m l).testBit q = (decide (q < 2 ^ m) && !q.testBit l) := by
  by_cases hq : q < 2 ^ m
  · have h := wo_ok hm hl
    unfold woOk at h
    rw [Bool.and_eq_true] at h
    have := List.all_eq_true.mp h.2 q (List.mem_range.mpr (Nat.lt_of_lt_of_le hq (pow_le64 hm)))
    exact eq_of_beq this
  · rw [decide_eq_false hq, Bool.false_and]
    exact Nat.testBit_lt_two_pow (Nat.lt_of_lt_of_le (wo_lt hm hl) (Nat.pow_le_pow_right (by decide) (by omega)))
def stepBy (m w l : Nat) : Nat := w ^^^ ((w &&& wo m l) <<< 2 ^ l)
/-- flipping a letter that is yes takes its power away; below, what borrows from the letter has it -/
def flipOk (p l : Nat) : Bool := if p.testBit l then decide (2 ^ l ≤ p ∧ p ^^^ 2 ^ l = p - 2 ^ l) else decide (2 ^ l ≤ p → (p - 2 ^ l).testBit l = true)
theorem flip_all : ((List.range 64).all fun p => (List.range 6).all fun l => flipOk p l) = true := by decide +kernel
theorem flip_ok {p l : Nat} (hp : p < 64) (hl : l < 6) : flipOk p l = true := by
  have h := List.all_eq_true.mp flip_all p (List.mem_range.mpr hp)
  exact List.all_eq_true.mp h l (List.mem_range.mpr hl)
def upOk (m l q : Nat) : Bool := decide (q < 2 ^ m → q.testBit l = false → q + 2 ^ l < 2 ^ m)
theorem up_all : ((List.range 7).all fun m => (List.range m).all fun l => (List.range 64).all fun q => upOk m l q) = true := by decide +kernel
theorem up_ok {m l q : Nat} (hm : m ≤ 6) (hl : l < m) (hq : q < 2 ^ m) (hb : q.testBit l = false) : q + 2 ^ l < 2 ^ m := by
  have h := List.all_eq_true.mp up_all m (List.mem_range.mpr (by omega))
  have h := List.all_eq_true.mp h l (List.mem_range.mpr hl)
  have h := List.all_eq_true.mp h q (List.mem_range.mpr (Nat.lt_of_lt_of_le hq (pow_le64 hm)))
  exact of_decide_eq_true h hq hb
theorem stepBy_bit {m w l p : Nat} (hm : m ≤ 6) (hl : l < m) (hp : p < 2 ^ m) : (stepBy m w l).testBit p = T l (fun q => w.testBit q) p := by
  have hp64 := Nat.lt_of_lt_of_le hp (pow_le64 hm)
  have hf := flip_ok hp64 (show l < 6 by omega)
  unfold stepBy T
  rw [Nat.testBit_xor, Nat.testBit_shiftLeft, Nat.testBit_and, wo_bit hm hl]
  unfold flipOk at hf
  by_cases hb : p.testBit l = true
  · rw [if_pos hb] at hf
    rw [if_pos hb]
    obtain ⟨h1, h2⟩ := of_decide_eq_true hf
    rw [← h2, decide_eq_true h1, decide_eq_true (flip_lt hp hl), flip_self, hb]
    simp
  · rw [if_neg hb] at hf
    rw [if_neg hb]
    by_cases h1 : 2 ^ l ≤ p
    · have h2 := of_decide_eq_true hf h1
      rw [h2]; simp
    · rw [decide_eq_false h1]; simp
theorem and_wo_shift {m w l : Nat} (hm : m ≤ 6) (hl : l < m) : (w &&& wo m l) <<< 2 ^ l < 2 ^ 2 ^ m := by
  refine Nat.lt_pow_two_of_testBit _ fun p hp => ?_
  rw [Nat.testBit_shiftLeft, Nat.testBit_and, wo_bit hm hl]
  by_cases h1 : 2 ^ l ≤ p
  · by_cases h2 : p - 2 ^ l < 2 ^ m
    · by_cases hb : (p - 2 ^ l).testBit l = true
      · rw [hb]; simp
      · rw [Bool.not_eq_true] at hb
        have := up_ok hm hl h2 hb
        omega
    · rw [decide_eq_false h2]; simp
  · rw [decide_eq_false h1]; simp
theorem stepBy_lt {m w l : Nat} (hm : m ≤ 6) (hl : l < m) (hw : w < 2 ^ 2 ^ m) : stepBy m w l < 2 ^ 2 ^ m := Nat.xor_lt_two_pow hw (and_wo_shift hm hl)
/-- behind k letters -/
def Zk (m w : Nat) : Nat → Nat
  | 0 => w
  | k + 1 => stepBy m (Zk m w k) k
def zeta (m w : Nat) : Nat := Zk m w m
def stepsL (m w : Nat) : List Nat := (List.range (m + 1)).map (Zk m w)
theorem Zk_lt {m w : Nat} (hm : m ≤ 6) (hw : w < 2 ^ 2 ^ m) : ∀ k, k ≤ m → Zk m w k < 2 ^ 2 ^ m
  | 0, _ => hw
  | k + 1, h => stepBy_lt hm (by omega) (Zk_lt hm hw k (by omega))
theorem Zk_bit {m w : Nat} (hm : m ≤ 6) : ∀ k, k ≤ m → ∀ p, p < 2 ^ m → (Zk m w k).testBit p = ZF k (fun q => w.testBit q) p
  | 0, _, _, _ => rfl
  | k + 1, h, p, hp => by
    show (stepBy m (Zk m w k) k).testBit p = T k (ZF k fun q => w.testBit q) p
    rw [stepBy_bit hm (by omega) hp]
    unfold T
    dsimp only
    rw [Zk_bit hm k (by omega) p hp, Zk_bit hm k (by omega) _ (flip_lt hp (by omega))]
theorem zeta_lt {m w : Nat} (hm : m ≤ 6) (hw : w < 2 ^ 2 ^ m) : zeta m w < 2 ^ 2 ^ m := Zk_lt hm hw m (Nat.le_refl m)
theorem zeta_bit {m w p : Nat} (hm : m ≤ 6) (hp : p < 2 ^ m) : (zeta m w).testBit p = ZF m (fun q => w.testBit q) p := Zk_bit hm m (Nat.le_refl m) p hp
theorem word_ext {m a b : Nat} (ha : a < 2 ^ 2 ^ m) (hb : b < 2 ^ 2 ^ m) (h : ∀ p, p < 2 ^ m → a.testBit p = b.testBit p) : a = b := by
  refine Nat.eq_of_testBit_eq fun p => ?_
  by_cases hp : p < 2 ^ m
  · exact h p hp
  · rw [Nat.testBit_lt_two_pow (Nat.lt_of_lt_of_le ha (Nat.pow_le_pow_right (by decide) (by omega))), Nat.testBit_lt_two_pow (Nat.lt_of_lt_of_le hb (Nat.pow_le_pow_right (by decide) (by omega)))]
theorem zeta_zeta {m w : Nat} (hm : m ≤ 6) (hw : w < 2 ^ 2 ^ m) : zeta m (zeta m w) = w := by
  refine word_ext (zeta_lt hm (zeta_lt hm hw)) hw fun p hp => ?_
  rw [zeta_bit hm hp, ZF_congr (fun q hq => zeta_bit hm hq) m (Nat.le_refl m) p hp]
  have := congrFun (ZF_ZF m (fun q => w.testBit q)) p
  exact this
/-! ### places and terms -/
/-- the word of places -/
def wat (l : List Nat) : Nat := (l.map fun q => 2 ^ q).sum
/-- the places of a word -/
def bits (n : Nat) : List Nat := (List.range 64).filter n.testBit
theorem add_or {a b : Nat} (h : a &&& b = 0) : a + b = a ||| b := by
  have hab : a + b < 2 ^ (a + b) := Nat.lt_two_pow_self
  have ha : a < 2 ^ (a + b) := by omega
  have hb : b < 2 ^ (a + b) := by omega
  have e := BitVec.add_eq_or_of_and_eq_zero (BitVec.ofNat (a + b) a) (BitVec.ofNat (a + b) b) (by
    apply BitVec.eq_of_toNat_eq
    rw [BitVec.toNat_and, BitVec.toNat_ofNat, BitVec.toNat_ofNat, Nat.mod_eq_of_lt ha, Nat.mod_eq_of_lt hb, h]; rfl)
  have e2 := congrArg BitVec.toNat e
  rw [BitVec.toNat_add, BitVec.toNat_or, BitVec.toNat_ofNat, BitVec.toNat_ofNat, Nat.mod_eq_of_lt ha, Nat.mod_eq_of_lt hb, Nat.mod_eq_of_lt hab] at e2
  exact e2
theorem wat_bit : ∀ {l : List Nat}, l.Nodup → ∀ i, (wat l).testBit i = decide (i ∈ l)
  | [], _, i => by simp [wat]
  | a :: l, nd, i => by
    rw [List.nodup_cons] at nd
    have ih := wat_bit nd.2
    have e : wat (a :: l) = 2 ^ a + wat l := by unfold wat; rw [List.map_cons, List.sum_cons]
    rw [e, add_or, Nat.testBit_or, Nat.testBit_two_pow, ih i]
    · by_cases h : a = i
      · subst h; simp
      · have h2 : ¬ i = a := fun z => h z.symm
        simp [h, h2]
    · refine Nat.eq_of_testBit_eq fun j => ?_
      rw [Nat.testBit_and, Nat.testBit_two_pow, ih j, Nat.zero_testBit]
      by_cases h : a = j
      · subst h; simp [nd.1]
      · simp [h]
theorem wat_lt {l : List Nat} {N : Nat} (nd : l.Nodup) (h : ∀ q ∈ l, q < N) : wat l < 2 ^ N := by
  refine Nat.lt_pow_two_of_testBit _ fun i hi => ?_
  rw [wat_bit nd, decide_eq_false_iff_not]
  intro z
  have := h i z
  omega
/-- as a sum of single places -/
theorem wat_xs {l : List Nat} (nd : l.Nodup) (p : Nat) : (wat l).testBit p = xs (fun q => dl q p) l := by
  rw [wat_bit nd]
  unfold dl
  by_cases h : p ∈ l
  · have := xs_one (fun _ => true) p nd h
    rw [decide_eq_true h, ← this]
    refine (xs_congr fun k _ => ?_).symm
    by_cases e : p = k
    · subst e; simp
    · have e2 : ¬ k = p := fun z => e z.symm
      simp [e, e2]
  · rw [decide_eq_false h]
    exact (xs_false (g := fun q => decide (p = q)) fun a ha => decide_eq_false fun (z : p = a) => h (by rw [z]; exact ha)).symm
theorem ZF_none : ∀ k, ZF k (fun _ => false) = fun _ => false
  | 0 => rfl
  | k + 1 => by
    show T k (ZF k fun _ => false) = _
    rw [ZF_none k]
    funext p
    unfold T
    simp
theorem ZF_xs : ∀ (k : Nat) (l : List Nat), ZF k (fun p => xs (fun q => dl q p) l) = fun p => xs (fun q => ZF k (dl q) p) l
  | k, [] => ZF_none k
  | k, a :: l => by
    have e : (fun p => xs (fun q => dl q p) (a :: l)) = xf (dl a) (fun p => xs (fun q => dl q p) l) := rfl
    rw [e, ZF_xf, ZF_xs k l]
    rfl
/-- the transform of the word of places: how many of them lie below, odd or even -/
theorem zeta_wat {m : Nat} {l : List Nat} {p : Nat} (hm : m ≤ 6) (nd : l.Nodup) (hl : ∀ q ∈ l, q < 2 ^ m) (hp : p < 2 ^ m) : (zeta m (wat l)).testBit p = xs (fun q => bel q p) l := by
  rw [zeta_bit hm hp]
  have e : (fun q => (wat l).testBit q) = fun q => xs (fun r => dl r q) l := funext fun q => wat_xs nd q
  rw [e, ZF_xs]
  exact xs_congr fun q hq => ZF_bel (hl q hq) hp
theorem mem_bits {n i : Nat} : i ∈ bits n ↔ i < 64 ∧ n.testBit i = true := by
  unfold bits
  rw [List.mem_filter, List.mem_range]
theorem bits_nodup (n : Nat) : (bits n).Nodup := List.Pairwise.filter _ List.nodup_range
theorem bits_lt (n : Nat) : (bits n).Pairwise (· < ·) := List.Pairwise.filter _ List.pairwise_lt_range
theorem wat_bits {n : Nat} (h : n < 2 ^ 64) : wat (bits n) = n := by
  refine Nat.eq_of_testBit_eq fun i => ?_
  rw [wat_bit (bits_nodup n)]
  by_cases hi : i < 64
  · by_cases hb : n.testBit i = true
    · rw [hb, decide_eq_true (mem_bits.mpr ⟨hi, hb⟩)]
    · rw [decide_eq_false fun z => hb (mem_bits.mp z).2]
      rw [Bool.not_eq_true] at hb
      exact hb.symm
  · rw [decide_eq_false fun z => hi (mem_bits.mp z).1]
    exact (Nat.testBit_lt_two_pow (Nat.lt_of_lt_of_le h (Nat.pow_le_pow_right (by decide) (by omega)))).symm
/-- two rising lists with the same items are one -/
theorem rise_one {α : Type} {R : α → α → Prop} (irr : ∀ a, ¬ R a a) (asy : ∀ a b, R a b → ¬ R b a) : ∀ {l r : List α}, l.Pairwise R → r.Pairwise R → (∀ a, a ∈ l ↔ a ∈ r) → l = r
  | [], [], _, _, _ => rfl
  | [], b :: r, _, _, h => absurd ((h b).mpr List.mem_cons_self) (by simp)
  | a :: l, [], _, _, h => absurd ((h a).mp List.mem_cons_self) (by simp)
  | a :: l, b :: r, hl, hr, h => by
    rw [List.pairwise_cons] at hl hr
    have e : a = b := by
      rcases List.mem_cons.mp ((h a).mp List.mem_cons_self) with e | ha
      · exact e
      · rcases List.mem_cons.mp ((h b).mpr List.mem_cons_self) with e | hb
        · exact e.symm
        · exact absurd (hr.1 a ha) (asy _ _ (hl.1 b hb))
    subst e
    have nl : a ∉ l := fun z => irr a (hl.1 a z)
    have nr : a ∉ r := fun z => irr a (hr.1 a z)
    rw [rise_one irr asy hl.2 hr.2 fun c => ?_]
    constructor
    · intro hc
      rcases List.mem_cons.mp ((h c).mp (List.mem_cons_of_mem _ hc)) with e | q
      · exact absurd hc (e ▸ nl)
      · exact q
    · intro hc
      rcases List.mem_cons.mp ((h c).mpr (List.mem_cons_of_mem _ hc)) with e | q
      · exact absurd hc (e ▸ nr)
      · exact q
theorem nodup_of_lt {l : List Nat} (h : l.Pairwise (· < ·)) : l.Nodup := h.imp fun h => Nat.ne_of_lt h
theorem bits_wat {l : List Nat} (h : l.Pairwise (· < ·)) (h64 : ∀ q ∈ l, q < 64) : bits (wat l) = l := by
  refine rise_one (R := (· < ·)) (fun a => Nat.lt_irrefl a) (fun a b h => Nat.not_lt.mpr (Nat.le_of_lt h)) (bits_lt _) h fun i => ?_
  rw [mem_bits, wat_bit (nodup_of_lt h), decide_eq_true_iff]
  exact ⟨fun z => z.2, fun z => ⟨h64 i z, z⟩⟩
theorem rise_len {m : Nat} {t : List Nat} (h : t.Pairwise (· < ·)) (hm : ∀ i ∈ t, i < m) : t.length ≤ m := by
  have e : t = (List.range m).filter fun i => decide (i ∈ t) := rise_one (R := (· < ·)) (fun a => Nat.lt_irrefl a) (fun a b h => Nat.not_lt.mpr (Nat.le_of_lt h)) h (List.Pairwise.filter _ List.pairwise_lt_range) fun i => by
    rw [List.mem_filter, List.mem_range, decide_eq_true_iff]
    exact ⟨fun z => ⟨hm i z, z⟩, fun z => z.2⟩
  have h2 := List.length_filter_le (fun i => decide (i ∈ t)) (List.range m)
  rw [← e, List.length_range] at h2
  exact h2
end YN
set_option maxRecDepth 100000
set_option maxHeartbeats 1000000
namespace YN
/-! ### the order of terms -/
def lexN : List Nat → List Nat → Bool
  | [], [] => false
  | [], _ :: _ => true
  | _ :: _, [] => false
  | x :: r, y :: s => decide (x < y) || (decide (x = y) && lexN r s)
theorem lexN_irr : ∀ t, lexN t t = false
  | [] => rfl
  | x :: r => by unfold lexN; rw [lexN_irr r]; simp
theorem lexN_trans : ∀ t u v, lexN t u = true → lexN u v = true → lexN t v = true
  | [], [], v, h, _ => by cases h
  | [], _ :: _, [], _, h => by cases h
  | [], _ :: _, _ :: _, _, _ => rfl
  | _ :: _, [], _, h, _ => by cases h
  | _ :: _, _ :: _, [], _, h => by cases h
  | x :: r, y :: s, z :: q, h1, h2 => by
    simp only [lexN, Bool.or_eq_true, Bool.and_eq_true, decide_eq_true_eq] at h1 h2 ⊢
    rcases h1 with h1 | ⟨e1, h1⟩
    · rcases h2 with h2 | ⟨e2, _⟩
      · exact .inl (by omega)
      · exact .inl (by omega)
    · rcases h2 with h2 | ⟨e2, h2⟩
      · exact .inl (by omega)
      · exact .inr ⟨by omega, lexN_trans r s q h1 h2⟩
theorem lexN_tri : ∀ t u, lexN t u = false → lexN u t = false → t = u
  | [], [], _, _ => rfl
  | [], _ :: _, h, _ => by cases h
  | _ :: _, [], _, h => by cases h
  | x :: r, y :: s, h1, h2 => by
    simp only [lexN, Bool.or_eq_false_iff, Bool.and_eq_false_iff, decide_eq_false_iff_not] at h1 h2
    have e : x = y := by omega
    subst e
    rw [lexN_tri r s (h1.2.resolve_left fun z => z rfl) (h2.2.resolve_left fun z => z rfl)]
def rlt (t u : List Nat) : Bool := decide (t.length < u.length) || (decide (t.length = u.length) && lexN t u)
def rle (t u : List Nat) : Bool := !rlt u t
theorem rlt_irr (t : List Nat) : ¬ rlt t t = true := by unfold rlt; rw [lexN_irr]; simp
theorem rlt_trans (t u v : List Nat) (h1 : rlt t u = true) (h2 : rlt u v = true) : rlt t v = true := by
  simp only [rlt, Bool.or_eq_true, Bool.and_eq_true, decide_eq_true_eq] at h1 h2 ⊢
  rcases h1 with h1 | ⟨e1, h1⟩
  · rcases h2 with h2 | ⟨e2, _⟩
    · exact .inl (by omega)
    · exact .inl (by omega)
  · rcases h2 with h2 | ⟨e2, h2⟩
    · exact .inl (by omega)
    · exact .inr ⟨by omega, lexN_trans t u v h1 h2⟩
theorem rlt_asy (t u : List Nat) (h1 : rlt t u = true) : ¬ rlt u t = true := fun h2 => rlt_irr t (rlt_trans t u t h1 h2)
theorem rlt_tri (t u : List Nat) (h1 : rlt t u = false) (h2 : rlt u t = false) : t = u := by
  simp only [rlt, Bool.or_eq_false_iff, Bool.and_eq_false_iff, decide_eq_false_iff_not] at h1 h2
  have e : t.length = u.length := by omega
  exact lexN_tri t u (h1.2.resolve_left fun z => z e) (h2.2.resolve_left fun z => z e.symm)
theorem rle_total (t u : List Nat) : (rle t u || rle u t) = true := by
  unfold rle
  cases h : rlt u t with
  | false => rfl
  | true =>
    have := rlt_asy u t h
    rw [Bool.not_eq_true] at this
    rw [this]; rfl
theorem rle_trans (t u v : List Nat) (h1 : rle t u = true) (h2 : rle u v = true) : rle t v = true := by
  unfold rle at *
  simp only [Bool.not_eq_true'] at *
  cases h : rlt v t with
  | false => rfl
  | true =>
    cases h3 : rlt t u with
    | true => rw [rlt_trans v t u h h3] at h2; cases h2
    | false => rw [rlt_tri t u h3 h1] at h; rw [h] at h2; cases h2
/-- terms in order -/
def srt (l : List (List Nat)) : List (List Nat) := l.mergeSort rle
theorem srt_perm (l : List (List Nat)) : (srt l).Perm l := List.mergeSort_perm l rle
theorem srt_le (l : List (List Nat)) : (srt l).Pairwise fun t u => rle t u = true := List.pairwise_mergeSort (le := rle) rle_trans rle_total l
abbrev Rise (l : List (List Nat)) : Prop := l.Pairwise fun t u => rlt t u = true
theorem Rise.nodup {l : List (List Nat)} (h : Rise l) : l.Nodup := List.Pairwise.imp (fun {a b} (q : rlt a b = true) (e : a = b) => rlt_irr b (by rw [e] at q; exact q)) h
theorem rise_of_le {l : List (List Nat)} (h : l.Pairwise fun t u => rle t u = true) (nd : l.Nodup) : Rise l := by
  refine (h.and nd).imp fun {t u} ⟨h1, h2⟩ => ?_
  unfold rle at h1
  rw [Bool.not_eq_true'] at h1
  cases h3 : rlt t u with
  | true => rfl
  | false => exact absurd (rlt_tri t u h3 h1) h2
theorem srt_rise {l : List (List Nat)} (nd : l.Nodup) : Rise (srt l) := rise_of_le (srt_le l) ((srt_perm l).nodup_iff.mpr nd)
theorem Rise.one {l r : List (List Nat)} (hl : Rise l) (hr : Rise r) (h : ∀ t, t ∈ l ↔ t ∈ r) : l = r :=
  rise_one (R := fun t u => rlt t u = true) rlt_irr rlt_asy hl hr h
/-! ### polynomials -/
def TermOk (m : Nat) (t : List Nat) : Prop := t.Pairwise (· < ·) ∧ ∀ i ∈ t, i < m
def PolyOk (m : Nat) (P : List (List Nat)) : Prop := Rise P ∧ ∀ t ∈ P, TermOk m t
theorem TermOk.lt {m : Nat} {t : List Nat} (h : TermOk m t) : wat t < 2 ^ m := wat_lt (nodup_of_lt h.1) h.2
theorem TermOk.bits {m : Nat} {t : List Nat} (h : TermOk m t) (hm : m ≤ 6) : bits (wat t) = t := bits_wat h.1 fun q hq => by have := h.2 q hq; omega
theorem TermOk.len {m : Nat} {t : List Nat} (h : TermOk m t) : t.length ≤ m := rise_len h.1 h.2
theorem termOk_bits {m n : Nat} (h : n < 2 ^ m) : TermOk m (bits n) := ⟨bits_lt n, fun i hi => by
  have := (mem_bits.mp hi).2
  have h2 := Nat.ge_two_pow_of_testBit this
  exact (Nat.pow_lt_pow_iff_right (by decide)).mp (Nat.lt_of_le_of_lt h2 h)⟩
theorem two64 {m n : Nat} (hm : m ≤ 6) (h : n < 2 ^ 2 ^ m) : n < 2 ^ 64 := Nat.lt_of_lt_of_le h (Nat.pow_le_pow_right (by decide) (pow_le64 hm))
theorem two64' {m n : Nat} (hm : m ≤ 6) (h : n < 2 ^ m) : n < 2 ^ 64 := Nat.lt_of_lt_of_le h (Nat.pow_le_pow_right (by decide) (by omega))
/-- the places of a polynomial's terms -/
abbrev pls (P : List (List Nat)) : List Nat := P.map wat
theorem PolyOk.pls_nodup {m : Nat} {P : List (List Nat)} (h : PolyOk m P) (hm : m ≤ 6) : (pls P).Nodup := by
  unfold pls
  rw [List.Nodup, List.pairwise_map]
  refine h.1.nodup.imp_of_mem fun {t u} ht hu hne e => hne ?_
  rw [← (h.2 t ht).bits hm, ← (h.2 u hu).bits hm, e]
theorem PolyOk.pls_lt {m : Nat} {P : List (List Nat)} (h : PolyOk m P) : ∀ q ∈ pls P, q < 2 ^ m := fun q hq => by
  obtain ⟨t, ht, rfl⟩ := List.mem_map.mp hq
  exact (h.2 t ht).lt
def wordOf (m : Nat) (P : List (List Nat)) : Nat := zeta m (wat (pls P))
def polyOf (m w : Nat) : List (List Nat) := srt ((bits (zeta m w)).map bits)
theorem PolyOk.wat_lt {m : Nat} {P : List (List Nat)} (h : PolyOk m P) (hm : m ≤ 6) : wat (pls P) < 2 ^ 2 ^ m := YN.wat_lt (h.pls_nodup hm) h.pls_lt
theorem PolyOk.word_lt {m : Nat} {P : List (List Nat)} (h : PolyOk m P) (hm : m ≤ 6) : wordOf m P < 2 ^ 2 ^ m := zeta_lt hm (h.wat_lt hm)
theorem bits_inj {l : List Nat} (nd : l.Nodup) (h : ∀ q ∈ l, q < 2 ^ 64) : (l.map bits).Nodup := by
  rw [List.Nodup, List.pairwise_map]
  refine nd.imp_of_mem fun {a b} ha hb hne e => hne ?_
  rw [← wat_bits (h a ha), ← wat_bits (h b hb), e]
theorem bits64 {n : Nat} : ∀ q ∈ bits n, q < 2 ^ 64 := fun q hq => Nat.lt_of_lt_of_le (mem_bits.mp hq).1 (by decide)
theorem bits_small {m n : Nat} (h : n < 2 ^ 2 ^ m) : ∀ q ∈ bits n, q < 2 ^ m := fun q hq => by
  have h2 := Nat.ge_two_pow_of_testBit (mem_bits.mp hq).2
  exact (Nat.pow_lt_pow_iff_right (by decide)).mp (Nat.lt_of_le_of_lt h2 h)
theorem polyOf_ok {m w : Nat} (hm : m ≤ 6) (hw : w < 2 ^ 2 ^ m) : PolyOk m (polyOf m w) := by
  refine ⟨srt_rise (bits_inj (bits_nodup _) bits64), fun t ht => ?_⟩
  obtain ⟨q, hq, rfl⟩ := List.mem_map.mp ((srt_perm _).mem_iff.mp ht)
  exact termOk_bits (bits_small (zeta_lt hm hw) q hq)
theorem wat_perm {l r : List Nat} (h : l.Perm r) : wat l = wat r := (h.map _).sum_nat
theorem wat_polyOf {m w : Nat} (hm : m ≤ 6) (hw : w < 2 ^ 2 ^ m) : (pls (polyOf m w)).Perm (bits (zeta m w)) := by
  refine ((srt_perm _).map wat).trans ?_
  rw [List.map_map]
  have e : (bits (zeta m w)).map (wat ∘ bits) = bits (zeta m w) := by
    conv => rhs; rw [← List.map_id (bits (zeta m w))]
    exact List.map_congr_left fun q hq => wat_bits (bits64 q hq)
  rw [e]
theorem word_poly {m w : Nat} (hm : m ≤ 6) (hw : w < 2 ^ 2 ^ m) : wordOf m (polyOf m w) = w := by
  unfold wordOf
  rw [wat_perm (wat_polyOf hm hw), wat_bits (two64 hm (zeta_lt hm hw)), zeta_zeta hm hw]
theorem poly_word {m : Nat} {P : List (List Nat)} (hm : m ≤ 6) (h : PolyOk m P) : polyOf m (wordOf m P) = P := by
  refine (polyOf_ok hm (h.word_lt hm)).1.one h.1 fun t => ?_
  unfold polyOf wordOf
  rw [(srt_perm _).mem_iff, zeta_zeta hm (h.wat_lt hm), List.mem_map]
  constructor
  · rintro ⟨q, hq, rfl⟩
    rw [mem_bits, wat_bit (h.pls_nodup hm), decide_eq_true_iff] at hq
    obtain ⟨u, hu, rfl⟩ := List.mem_map.mp hq.2
    rw [(h.2 u hu).bits hm]
    exact hu
  · intro ht
    have hq := List.mem_map_of_mem (f := wat) ht
    refine ⟨wat t, ?_, (h.2 t ht).bits hm⟩
    rw [mem_bits, wat_bit (h.pls_nodup hm), decide_eq_true_iff]
    exact ⟨Nat.lt_of_lt_of_le (h.2 t ht).lt (pow_le64 hm), hq⟩
theorem polyOf_inj {m v w : Nat} (hm : m ≤ 6) (hv : v < 2 ^ 2 ^ m) (hw : w < 2 ^ 2 ^ m) (e : polyOf m v = polyOf m w) : v = w := by
  rw [← word_poly hm hv, ← word_poly hm hw, e]
/-! ### values -/
def pval (P : List (List Nat)) (p : Nat) : Bool := xs (fun t => bel (wat t) p) P
theorem word_bit {m p : Nat} {P : List (List Nat)} (hm : m ≤ 6) (h : PolyOk m P) (hp : p < 2 ^ m) : (wordOf m P).testBit p = pval P p := by
  unfold wordOf pval
  rw [zeta_wat hm (h.pls_nodup hm) h.pls_lt hp, xs_map]
/-! ### odd ones -/
def OddOf (L R : List (List Nat)) : Prop := Rise R ∧ ∀ t, t ∈ R ↔ L.count t % 2 = 1
theorem OddOf.sub {L R : List (List Nat)} (h : OddOf L R) : ∀ t ∈ R, t ∈ L := fun t ht => by
  have h1 := (h.2 t).mp ht
  refine List.count_pos_iff.mp ?_
  omega
theorem keys_of : ∀ L : List (List Nat), ∃ keys : List (List Nat), keys.Nodup ∧ ∀ a, a ∈ L → a ∈ keys
  | [] => ⟨[], List.nodup_nil, fun _ h => h⟩
  | a :: L => by
    obtain ⟨keys, nd, h⟩ := keys_of L
    by_cases ha : a ∈ keys
    · exact ⟨keys, nd, fun b hb => (List.mem_cons.mp hb).elim (fun e => e ▸ ha) (h b)⟩
    · exact ⟨a :: keys, List.nodup_cons.mpr ⟨ha, nd⟩, fun b hb => (List.mem_cons.mp hb).elim (fun e => e ▸ List.mem_cons_self) fun z => List.mem_cons_of_mem _ (h b z)⟩
theorem OddOf.xs {L R : List (List Nat)} (h : OddOf L R) (g : List Nat → Bool) : xs g R = YN.xs g L := by
  obtain ⟨keys, nd, hk⟩ := keys_of L
  rw [← xs_keys g nd (l := L) hk]
  have e2 : YN.xs (fun k => g k && decide (R.count k % 2 = 1)) keys = YN.xs g R := xs_keys g nd fun a ha => hk a (h.sub a ha)
  rw [← e2]
  refine xs_congr fun k _ => ?_
  have : decide (R.count k % 2 = 1) = decide (L.count k % 2 = 1) := by
    by_cases hk : k ∈ R
    · rw [List.Nodup.count h.1.nodup, if_pos hk, decide_eq_true ((h.2 k).mp hk)]; rfl
    · rw [List.count_eq_zero_of_not_mem hk, decide_eq_false fun z => hk ((h.2 k).mpr z)]; rfl
  rw [this]
theorem OddOf.ok {m : Nat} {L R : List (List Nat)} (h : OddOf L R) (hL : ∀ t ∈ L, TermOk m t) : PolyOk m R := ⟨h.1, fun t ht => hL t (h.sub t ht)⟩
theorem sum_word {m : Nat} {P Q R : List (List Nat)} (hm : m ≤ 6) (hP : PolyOk m P) (hQ : PolyOk m Q) (h : OddOf (P ++ Q) R) : PolyOk m R ∧ wordOf m R = wordOf m P ^^^ wordOf m Q := by
  have ok := h.ok (m := m) fun t ht => (List.mem_append.mp ht).elim (hP.2 t) (hQ.2 t)
  refine ⟨ok, word_ext (ok.word_lt hm) (Nat.xor_lt_two_pow (hP.word_lt hm) (hQ.word_lt hm)) fun p hp => ?_⟩
  rw [Nat.testBit_xor, word_bit hm ok hp, word_bit hm hP hp, word_bit hm hQ hp]
  unfold pval
  rw [h.xs, xs_append]
/-- all products of terms -/
def prods (P Q : List (List Nat)) : List (List Nat) := P.flatMap fun t => Q.map fun u => bits (wat t ||| wat u)
theorem termOk_or {m : Nat} {t u : List Nat} (ht : TermOk m t) (hu : TermOk m u) : TermOk m (bits (wat t ||| wat u)) := termOk_bits (Nat.or_lt_two_pow ht.lt hu.lt)
theorem bel_or (a b p : Nat) : bel (a ||| b) p = (bel a p && bel b p) := by
  have e : bel (a ||| b) p = true ↔ (bel a p && bel b p) = true := by
    rw [Bool.and_eq_true, bel_iff, bel_iff, bel_iff]
    constructor
    · intro h
      exact ⟨fun i hi => h i (by rw [Nat.testBit_or, hi]; rfl), fun i hi => h i (by rw [Nat.testBit_or, hi, Bool.or_true])⟩
    · rintro ⟨h1, h2⟩ i hi
      rw [Nat.testBit_or, Bool.or_eq_true] at hi
      exact hi.elim (h1 i) (h2 i)
  exact Bool.eq_iff_iff.mpr e
theorem pval_prods {m p : Nat} {P Q : List (List Nat)} (hm : m ≤ 6) (hP : ∀ t ∈ P, TermOk m t) (hQ : ∀ t ∈ Q, TermOk m t) : pval (prods P Q) p = (pval P p && pval Q p) := by
  induction P with
  | nil => rfl
  | cons t P ih =>
    have ih := ih fun u hu => hP u (List.mem_cons_of_mem _ hu)
    have ht := hP t List.mem_cons_self
    have e : pval (prods (t :: P) Q) p = (pval (Q.map fun u => bits (wat t ||| wat u)) p).xor (pval (prods P Q) p) := by
      unfold pval prods
      rw [List.flatMap_cons, xs_append]
    have e2 : pval (Q.map fun u => bits (wat t ||| wat u)) p = (bel (wat t) p && pval Q p) := by
      unfold pval
      rw [xs_map, ← xs_and]
      refine xs_congr fun u hu => ?_
      rw [wat_bits (two64' hm (Nat.or_lt_two_pow ht.lt (hQ u hu).lt)), bel_or]
    rw [e, e2, ih]
    unfold pval
    simp only [xs]
    cases bel (wat t) p <;> cases xs (fun t => bel (wat t) p) P <;> cases xs (fun t => bel (wat t) p) Q <;> rfl
theorem prods_ok {m : Nat} {P Q : List (List Nat)} (hP : ∀ t ∈ P, TermOk m t) (hQ : ∀ t ∈ Q, TermOk m t) : ∀ t ∈ prods P Q, TermOk m t := fun t ht => by
  obtain ⟨a, ha, h⟩ := List.mem_flatMap.mp ht
  obtain ⟨b, hb, rfl⟩ := List.mem_map.mp h
  exact termOk_or (hP a ha) (hQ b hb)
theorem prod_word {m : Nat} {P Q R : List (List Nat)} (hm : m ≤ 6) (hP : PolyOk m P) (hQ : PolyOk m Q) (h : OddOf (prods P Q) R) : PolyOk m R ∧ wordOf m R = wordOf m P &&& wordOf m Q := by
  have ok := h.ok (prods_ok hP.2 hQ.2)
  refine ⟨ok, word_ext (ok.word_lt hm) (Nat.lt_of_le_of_lt Nat.and_le_left (hP.word_lt hm)) fun p hp => ?_⟩
  rw [Nat.testBit_and, word_bit hm ok hp, word_bit hm hP hp, word_bit hm hQ hp, ← pval_prods hm hP.2 hQ.2]
  unfold pval
  rw [h.xs]
/-! ### degrees -/
def deg : List (List Nat) → Int
  | [] => -1
  | t :: r => if (t.length : Int) < deg r then deg r else t.length
theorem deg_le {P : List (List Nat)} {d : Int} (h0 : -1 ≤ d) (h : ∀ t ∈ P, (t.length : Int) ≤ d) : deg P ≤ d := by
  induction P with
  | nil => exact h0
  | cons t r ih =>
    unfold deg
    have h1 := ih fun u hu => h u (List.mem_cons_of_mem _ hu)
    have h2 := h t List.mem_cons_self
    split <;> omega
theorem le_deg : ∀ {P : List (List Nat)} {t : List Nat}, t ∈ P → (t.length : Int) ≤ deg P
  | u :: r, t, h => by
    unfold deg
    rcases List.mem_cons.mp h with rfl | h
    · split <;> omega
    · have := le_deg h
      split <;> omega
theorem deg_ge (P : List (List Nat)) : -1 ≤ deg P := by
  induction P with
  | nil => exact Int.le_refl _
  | cons t r ih => unfold deg; split <;> omega
/-- the most of the lengths -/
theorem deg_is {P : List (List Nat)} {d : Int} (hd : d ∈ P.map fun t => (t.length : Int)) (h : ∀ t ∈ P, (t.length : Int) ≤ d) : d = deg P := by
  obtain ⟨t, ht, rfl⟩ := List.mem_map.mp hd
  have h1 := le_deg ht
  have h2 : deg P ≤ (t.length : Int) := deg_le (by omega) h
  omega
theorem bits_or_len (a b : Nat) : (bits (a ||| b)).length ≤ (bits a).length + (bits b).length := by
  unfold bits
  generalize List.range 64 = l
  induction l with
  | nil => simp
  | cons i l ih =>
    simp only [List.filter_cons, Nat.testBit_or]
    cases a.testBit i <;> cases b.testBit i <;> simp <;> omega
theorem deg_sum {P Q R : List (List Nat)} (h : OddOf (P ++ Q) R) : deg R ≤ if deg Q > deg P then deg Q else deg P := by
  have h0 := deg_ge P
  have h1 := deg_ge Q
  refine deg_le (by split <;> omega) fun t ht => ?_
  rcases List.mem_append.mp (h.sub t ht) with z | z
  · have := le_deg z; split <;> omega
  · have := le_deg z; split <;> omega
theorem deg_take {P : List (List Nat)} {n : Nat} {t : List Nat} (h : t ∈ P.take n) : (t.length : Int) ≤ deg P := le_deg (List.mem_of_mem_take h)
theorem deg_prod {m : Nat} {P Q R : List (List Nat)} {n k : Nat} (hm : m ≤ 6) (hP : ∀ t ∈ P, TermOk m t) (hQ : ∀ t ∈ Q, TermOk m t) (h : OddOf (prods (P.take n) (Q.take k)) R) : deg R ≤ (if deg P > 0 then deg P else 0) + (if deg Q > 0 then deg Q else 0) := by
  refine deg_le (by split <;> split <;> omega) fun t ht => ?_
  obtain ⟨a, ha, h2⟩ := List.mem_flatMap.mp (h.sub t ht)
  obtain ⟨b, hb, rfl⟩ := List.mem_map.mp h2
  have l1 := deg_take ha
  have l2 := deg_take hb
  have l3 := bits_or_len (wat a) (wat b)
  rw [(hP a (List.mem_of_mem_take ha)).bits hm, (hQ b (List.mem_of_mem_take hb)).bits hm] at l3
  split <;> split <;> omega
theorem deg_term {m : Nat} {P : List (List Nat)} (h : ∀ t ∈ P, TermOk m t) : deg P ≤ m := deg_le (by omega) fun t ht => by have := (h t ht).len; omega
theorem PolyOk.take {m : Nat} {P : List (List Nat)} (h : PolyOk m P) (n : Nat) : PolyOk m (P.take n) := ⟨h.1.sublist (List.take_sublist n P), fun t ht => h.2 t (List.mem_of_mem_take ht)⟩
theorem PolyOk.sub {m : Nat} {P R : List (List Nat)} (h : PolyOk m P) (s : R.Sublist P) : PolyOk m R := ⟨h.1.sublist s, fun t ht => h.2 t (s.subset ht)⟩
theorem polyOk_len {m : Nat} {P : List (List Nat)} (hm : m ≤ 6) (h : PolyOk m P) : P.length ≤ 64 := by
  have nd := h.pls_nodup hm
  have e : (bits (wat (pls P))).length ≤ 64 := by
    have := List.length_filter_le (wat (pls P)).testBit (List.range 64)
    rw [List.length_range] at this
    exact this
  have h1 : (pls P).Perm (bits (wat (pls P))) := (List.perm_ext_iff_of_nodup nd (bits_nodup _)).mpr fun q => by
    rw [mem_bits, wat_bit nd, decide_eq_true_iff]
    exact ⟨fun z => ⟨Nat.lt_of_lt_of_le (h.pls_lt q z) (pow_le64 hm), z⟩, fun z => z.2⟩
  have := h1.length_eq
  rw [List.length_map] at this
  omega
/-! ### all terms -/
def allT : Nat → List (List Nat)
  | 0 => [[]]
  | l + 1 => allT l ++ (allT l).map (· ++ [l])
theorem allT_len : ∀ l, (allT l).length = 2 ^ l
  | 0 => rfl
  | l + 1 => by unfold allT; rw [List.length_append, List.length_map, allT_len l, Nat.pow_succ]; omega
theorem allT_ok : ∀ l, (allT l).Nodup ∧ ∀ t ∈ allT l, TermOk l t
  | 0 => ⟨by simp [allT], fun t ht => by simp [allT] at ht; subst ht; exact ⟨List.Pairwise.nil, fun i hi => by cases hi⟩⟩
  | l + 1 => by
    obtain ⟨nd, ok⟩ := allT_ok l
    unfold allT
    constructor
    · rw [List.nodup_append]
      refine ⟨nd, ?_, ?_⟩
      · rw [List.Nodup, List.pairwise_map]
        exact nd.imp fun h e => h (List.append_cancel_right e)
      · rintro t ht u hu rfl
        obtain ⟨v, _, rfl⟩ := List.mem_map.mp hu
        have := (ok _ ht).2 l (by simp)
        omega
    · intro t ht
      rcases List.mem_append.mp ht with h | h
      · exact ⟨(ok t h).1, fun i hi => by have := (ok t h).2 i hi; omega⟩
      · obtain ⟨v, hv, rfl⟩ := List.mem_map.mp h
        refine ⟨?_, fun i hi => ?_⟩
        · rw [List.pairwise_append]
          exact ⟨(ok v hv).1, by simp, fun a ha b hb => by simp at hb; subst hb; exact (ok v hv).2 a ha⟩
        · rcases List.mem_append.mp hi with z | z
          · have := (ok v hv).2 i z; omega
          · simp at z; omega
theorem terms_ok {m : Nat} (t : List Nat → Bool) : PolyOk m (srt ((allT m).filter t)) := by
  obtain ⟨nd, ok⟩ := allT_ok m
  refine ⟨srt_rise (nd.sublist List.filter_sublist), fun u hu => ok u ?_⟩
  exact (List.mem_filter.mp ((srt_perm _).mem_iff.mp hu)).1
theorem terms_len {m : Nat} (hm : m ≤ 6) (t : List Nat → Bool) : (srt ((allT m).filter t)).length ≤ 64 := by
  rw [(srt_perm _).length_eq]
  have h1 := List.length_filter_le t (allT m)
  rw [allT_len] at h1
  exact Nat.le_trans h1 (pow_le64 hm)
/-- the places in order -/
theorem places_sorted {m w : Nat} {l : List Nat} (hm : m ≤ 6) (hw : w < 2 ^ 2 ^ m) (hp : l.Perm (pls (polyOf m w))) (hs : l.Pairwise (· ≤ ·)) : l = bits (zeta m w) := by
  have h1 := hp.trans (wat_polyOf hm hw)
  have nd : l.Nodup := h1.nodup_iff.mpr (bits_nodup _)
  refine rise_one (R := (· < ·)) (fun a => Nat.lt_irrefl a) (fun a b h => Nat.not_lt.mpr (Nat.le_of_lt h)) ((hs.and nd).imp fun {a b} ⟨h, n⟩ => by omega) (bits_lt _) fun i => h1.mem_iff
theorem poly_len {m w : Nat} (hm : m ≤ 6) (hw : w < 2 ^ 2 ^ m) : (polyOf m w).length = (bits (zeta m w)).length := by
  have := (wat_polyOf hm hw).length_eq
  rwa [List.length_map] at this
end YN
set_option Elab.async false
set_option linter.all false
set_option maxRecDepth 100000
set_option maxHeartbeats 4000000
namespace YN
open PySem PySem.Spec PyProof.Rows L2
/-! ### the text of the row by places -/
def topS (i : Nat) : Stmt := PySem.Challenge.pw_yesnowords_k90_whole_one_polynomial.main.body.getD i (.Pass ⟨0, 0, 0, 0⟩)
abbrev s_is_whole : Stmt := topS 1
abbrev s_is_word : Stmt := topS 2
abbrev s_says : Stmt := topS 3
abbrev s_where : Stmt := topS 4
abbrev s_word_at : Stmt := topS 5
abbrev s_plus : Stmt := topS 6
abbrev s_times : Stmt := topS 7
abbrev s_word_without : Stmt := topS 9
abbrev s_step_by : Stmt := topS 10
abbrev s_steps : Stmt := topS 11
abbrev s_shows_steps : Stmt := topS 12
abbrev s_is_term : Stmt := topS 14
abbrev s_rank_of : Stmt := topS 15
abbrev s_is_poly : Stmt := topS 16
abbrev s_in_order : Stmt := topS 17
abbrev s_degree : Stmt := topS 18
abbrev s_place_of : Stmt := topS 19
abbrev s_term_at : Stmt := topS 20
abbrev s_value : Stmt := topS 21
abbrev s_odd_ones : Stmt := topS 22
abbrev s_poly_sum : Stmt := topS 23
abbrev s_poly_product : Stmt := topS 24
abbrev s_word_of : Stmt := topS 25
abbrev s_poly_of : Stmt := topS 26
abbrev s_law_hand : Stmt := topS 28
abbrev s_law_take : Stmt := topS 29
abbrev s_law_many : Stmt := topS 30
abbrev s_law_bits : Stmt := topS 31
abbrev s_law_word : Stmt := topS 32
abbrev s_law_terms : Stmt := topS 33
abbrev s_law_poly : Stmt := topS 34
abbrev s_law_word_right : Stmt := topS 35
abbrev s_law_together_right : Stmt := topS 36
abbrev s_law : Stmt := topS 37
abbrev FnP (K : PySem.W.Frag) (x : Str) (st : Stmt) (f : Addr) (fd : FuncData) : Prop := FunD K x x (defArgs st) (defBody st) (defScope st) [] [] f fd
/-- what the top has left: each def, and the names that are still the built-in ones -/
structure Txt (K : PySem.W.Frag) (mg : Str → Option Value) : Prop where
  d_is_whole : ∃ f fd, FnP K "is_whole" s_is_whole f fd ∧ mg "is_whole" = some (.ref f)
  d_is_word : ∃ f fd, FnP K "is_word" s_is_word f fd ∧ mg "is_word" = some (.ref f)
  d_says : ∃ f fd, FnP K "says" s_says f fd ∧ mg "says" = some (.ref f)
  d_where : ∃ f fd, FnP K "where" s_where f fd ∧ mg "where" = some (.ref f)
  d_word_at : ∃ f fd, FnP K "word_at" s_word_at f fd ∧ mg "word_at" = some (.ref f)
  d_plus : ∃ f fd, FnP K "plus" s_plus f fd ∧ mg "plus" = some (.ref f)
  d_times : ∃ f fd, FnP K "times" s_times f fd ∧ mg "times" = some (.ref f)
  d_word_without : ∃ f fd, FnP K "word_without" s_word_without f fd ∧ mg "word_without" = some (.ref f)
  d_step_by : ∃ f fd, FnP K "step_by" s_step_by f fd ∧ mg "step_by" = some (.ref f)
  d_steps : ∃ f fd, FnP K "steps" s_steps f fd ∧ mg "steps" = some (.ref f)
  d_shows_steps : ∃ f fd, FnP K "shows_steps" s_shows_steps f fd ∧ mg "shows_steps" = some (.ref f)
  d_is_term : ∃ f fd, FnP K "is_term" s_is_term f fd ∧ mg "is_term" = some (.ref f)
  d_rank_of : ∃ f fd, FnP K "rank_of" s_rank_of f fd ∧ mg "rank_of" = some (.ref f)
  d_is_poly : ∃ f fd, FnP K "is_poly" s_is_poly f fd ∧ mg "is_poly" = some (.ref f)
  d_in_order : ∃ f fd, FnP K "in_order" s_in_order f fd ∧ mg "in_order" = some (.ref f)
  d_degree : ∃ f fd, FnP K "degree" s_degree f fd ∧ mg "degree" = some (.ref f)
  d_place_of : ∃ f fd, FnP K "place_of" s_place_of f fd ∧ mg "place_of" = some (.ref f)
  d_term_at : ∃ f fd, FnP K "term_at" s_term_at f fd ∧ mg "term_at" = some (.ref f)
  d_value : ∃ f fd, FnP K "value" s_value f fd ∧ mg "value" = some (.ref f)
  d_odd_ones : ∃ f fd, FnP K "odd_ones" s_odd_ones f fd ∧ mg "odd_ones" = some (.ref f)
  d_poly_sum : ∃ f fd, FnP K "poly_sum" s_poly_sum f fd ∧ mg "poly_sum" = some (.ref f)
  d_poly_product : ∃ f fd, FnP K "poly_product" s_poly_product f fd ∧ mg "poly_product" = some (.ref f)
  d_word_of : ∃ f fd, FnP K "word_of" s_word_of f fd ∧ mg "word_of" = some (.ref f)
  d_poly_of : ∃ f fd, FnP K "poly_of" s_poly_of f fd ∧ mg "poly_of" = some (.ref f)
  d_law_hand : ∃ f fd, FnP K "_law_hand" s_law_hand f fd ∧ mg "_law_hand" = some (.ref f)
  d_law_take : ∃ f fd, FnP K "_law_take" s_law_take f fd ∧ mg "_law_take" = some (.ref f)
  d_law_many : ∃ f fd, FnP K "_law_many" s_law_many f fd ∧ mg "_law_many" = some (.ref f)
  d_law_bits : ∃ f fd, FnP K "_law_bits" s_law_bits f fd ∧ mg "_law_bits" = some (.ref f)
  d_law_word : ∃ f fd, FnP K "_law_word" s_law_word f fd ∧ mg "_law_word" = some (.ref f)
  d_law_terms : ∃ f fd, FnP K "_law_terms" s_law_terms f fd ∧ mg "_law_terms" = some (.ref f)
  d_law_poly : ∃ f fd, FnP K "_law_poly" s_law_poly f fd ∧ mg "_law_poly" = some (.ref f)
  d_law_word_right : ∃ f fd, FnP K "_law_word_right" s_law_word_right f fd ∧ mg "_law_word_right" = some (.ref f)
  d_law_together_right : ∃ f fd, FnP K "_law_together_right" s_law_together_right f fd ∧ mg "_law_together_right" = some (.ref f)
  d_law : ∃ f fd, FnP K "law" s_law f fd ∧ mg "law" = some (.ref f)
  n_isinstance : mg "isinstance" = none
  n_int : mg "int" = none
  n_bool : mg "bool" = none
  n_tuple : mg "tuple" = none
  n_sum : mg "sum" = none
  n_range : mg "range" = none
  n_len : mg "len" = none
  n_all : mg "all" = none
  n_zip : mg "zip" = none
  n_max : mg "max" = none
  n_sorted : mg "sorted" = none
  n_abs : mg "abs" = none
  n_enumerate : mg "enumerate" = none
  n_reversed : mg "reversed" = none
  n_list : mg "list" = none
  n_dict : mg "dict" = none
end YN
set_option Elab.async false
set_option linter.all false
set_option maxRecDepth 100000
set_option maxHeartbeats 0
namespace YN
open PySem PySem.Spec PyProof.Rows L2
/-! ### the head: facts by names, the run -/
def D_is_whole : He.DefD := ⟨("is_whole", none), "is_whole", "is_whole", defArgs s_is_whole, defBody s_is_whole, defScope s_is_whole, [], []⟩
def D_is_word : He.DefD := ⟨("is_word", none), "is_word", "is_word", defArgs s_is_word, defBody s_is_word, defScope s_is_word, [], []⟩
def D_says : He.DefD := ⟨("says", none), "says", "says", defArgs s_says, defBody s_says, defScope s_says, [], []⟩
def D_where : He.DefD := ⟨("where", none), "where", "where", defArgs s_where, defBody s_where, defScope s_where, [], []⟩
def D_word_at : He.DefD := ⟨("word_at", none), "word_at", "word_at", defArgs s_word_at, defBody s_word_at, defScope s_word_at, [], []⟩
def D_plus : He.DefD := ⟨("plus", none), "plus", "plus", defArgs s_plus, defBody s_plus, defScope s_plus, [], []⟩
def D_times : He.DefD := ⟨("times", none), "times", "times", defArgs s_times, defBody s_times, defScope s_times, [], []⟩
def D_word_without : He.DefD := ⟨("word_without", none), "word_without", "word_without", defArgs s_word_without, defBody s_word_without, defScope s_word_without, [], []⟩
def D_step_by : He.DefD := ⟨("step_by", none), "step_by", "step_by", defArgs s_step_by, defBody s_step_by, defScope s_step_by, [], []⟩
def D_steps : He.DefD := ⟨("steps", none), "steps", "steps", defArgs s_steps, defBody s_steps, defScope s_steps, [], []⟩
def D_shows_steps : He.DefD := ⟨("shows_steps", none), "shows_steps", "shows_steps", defArgs s_shows_steps, defBody s_shows_steps, defScope s_shows_steps, [], []⟩
def D_is_term : He.DefD := ⟨("is_term", none), "is_term", "is_term", defArgs s_is_term, defBody s_is_term, defScope s_is_term, [], []⟩
def D_rank_of : He.DefD := ⟨("rank_of", none), "rank_of", "rank_of", defArgs s_rank_of, defBody s_rank_of, defScope s_rank_of, [], []⟩
def D_is_poly : He.DefD := ⟨("is_poly", none), "is_poly", "is_poly", defArgs s_is_poly, defBody s_is_poly, defScope s_is_poly, [], []⟩
def D_in_order : He.DefD := ⟨("in_order", none), "in_order", "in_order", defArgs s_in_order, defBody s_in_order, defScope s_in_order, [], []⟩
def D_degree : He.DefD := ⟨("degree", none), "degree", "degree", defArgs s_degree, defBody s_degree, defScope s_degree, [], []⟩
def D_place_of : He.DefD := ⟨("place_of", none), "place_of", "place_of", defArgs s_place_of, defBody s_place_of, defScope s_place_of, [], []⟩
def D_term_at : He.DefD := ⟨("term_at", none), "term_at", "term_at", defArgs s_term_at, defBody s_term_at, defScope s_term_at, [], []⟩
def D_value : He.DefD := ⟨("value", none), "value", "value", defArgs s_value, defBody s_value, defScope s_value, [], []⟩
def D_odd_ones : He.DefD := ⟨("odd_ones", none), "odd_ones", "odd_ones", defArgs s_odd_ones, defBody s_odd_ones, defScope s_odd_ones, [], []⟩
def D_poly_sum : He.DefD := ⟨("poly_sum", none), "poly_sum", "poly_sum", defArgs s_poly_sum, defBody s_poly_sum, defScope s_poly_sum, [], []⟩
def D_poly_product : He.DefD := ⟨("poly_product", none), "poly_product", "poly_product", defArgs s_poly_product, defBody s_poly_product, defScope s_poly_product, [], []⟩
def D_word_of : He.DefD := ⟨("word_of", none), "word_of", "word_of", defArgs s_word_of, defBody s_word_of, defScope s_word_of, [], []⟩
def D_poly_of : He.DefD := ⟨("poly_of", none), "poly_of", "poly_of", defArgs s_poly_of, defBody s_poly_of, defScope s_poly_of, [], []⟩
def D_law_hand : He.DefD := ⟨("_law_hand", none), "_law_hand", "_law_hand", defArgs s_law_hand, defBody s_law_hand, defScope s_law_hand, [], []⟩
def D_law_take : He.DefD := ⟨("_law_take", none), "_law_take", "_law_take", defArgs s_law_take, defBody s_law_take, defScope s_law_take, [], []⟩
def D_law_many : He.DefD := ⟨("_law_many", none), "_law_many", "_law_many", defArgs s_law_many, defBody s_law_many, defScope s_law_many, [], []⟩
def D_law_bits : He.DefD := ⟨("_law_bits", none), "_law_bits", "_law_bits", defArgs s_law_bits, defBody s_law_bits, defScope s_law_bits, [], []⟩
def D_law_word : He.DefD := ⟨("_law_word", none), "_law_word", "_law_word", defArgs s_law_word, defBody s_law_word, defScope s_law_word, [], []⟩
def D_law_terms : He.DefD := ⟨("_law_terms", none), "_law_terms", "_law_terms", defArgs s_law_terms, defBody s_law_terms, defScope s_law_terms, [], []⟩
def D_law_poly : He.DefD := ⟨("_law_poly", none), "_law_poly", "_law_poly", defArgs s_law_poly, defBody s_law_poly, defScope s_law_poly, [], []⟩
def D_law_word_right : He.DefD := ⟨("_law_word_right", none), "_law_word_right", "_law_word_right", defArgs s_law_word_right, defBody s_law_word_right, defScope s_law_word_right, [], []⟩
def D_law_together_right : He.DefD := ⟨("_law_together_right", none), "_law_together_right", "_law_together_right", defArgs s_law_together_right, defBody s_law_together_right, defScope s_law_together_right, [], []⟩
def D_law : He.DefD := ⟨("law", none), "law", "law", defArgs s_law, defBody s_law, defScope s_law, [], []⟩
def fnL : List He.DefD := [D_is_whole, D_is_word, D_says, D_where, D_word_at, D_plus, D_times, D_word_without, D_step_by, D_steps, D_shows_steps, D_is_term, D_rank_of, D_is_poly, D_in_order, D_degree, D_place_of, D_term_at, D_value, D_odd_ones, D_poly_sum, D_poly_product, D_word_of, D_poly_of, D_law_hand, D_law_take, D_law_many, D_law_bits, D_law_word, D_law_terms, D_law_poly, D_law_word_right, D_law_together_right, D_law]
def faL : List He.Fa := [.glo "is_whole", .glo "is_word", .glo "says", .glo "where", .glo "word_at", .glo "plus", .glo "times", .glo "word_without", .glo "step_by", .glo "steps", .glo "shows_steps", .glo "is_term", .glo "rank_of", .glo "is_poly", .glo "in_order", .glo "degree", .glo "place_of", .glo "term_at", .glo "value", .glo "odd_ones", .glo "poly_sum", .glo "poly_product", .glo "word_of", .glo "poly_of", .glo "_law_hand", .glo "_law_take", .glo "_law_many", .glo "_law_bits", .glo "_law_word", .glo "_law_terms", .glo "_law_poly", .glo "_law_word_right", .glo "_law_together_right", .glo "law", .free "isinstance", .free "int", .free "bool", .free "tuple", .free "sum", .free "range", .free "len", .free "all", .free "zip", .free "max", .free "sorted", .free "abs", .free "enumerate", .free "reversed", .free "list", .free "dict"]
def tfL : List (Str × Option Str) := [("_law_terms", none)]
abbrev R : PySem.W.OpenRow := PySem.W.OpenLaw.row PySem.Challenge.rw_yesnowords_k90_whole_one_polynomial
abbrev hk : PySem.W.Hook := He.hookX 4 faL fnL [] tfL (fun _ => true)
def ob (s : PySem.W.SharedT) : He.AlX := He.obsX 4 faL fnL [] tfL (fun _ => true) (HandSHeadRun.getT s)
theorem ob_eq (s : PySem.W.SharedT) : ob s = hk.obs s.abs := He.obsX_eq (HandSHeadRun.getT_eq s)
def loose : List Str := [("is_whole" : Str), ("is_word" : Str), ("says" : Str), ("where" : Str), ("word_at" : Str), ("plus" : Str), ("times" : Str), ("word_without" : Str), ("step_by" : Str), ("steps" : Str), ("shows_steps" : Str), ("is_term" : Str), ("rank_of" : Str), ("is_poly" : Str), ("in_order" : Str), ("degree" : Str), ("place_of" : Str), ("term_at" : Str), ("value" : Str), ("odd_ones" : Str), ("poly_sum" : Str), ("poly_product" : Str), ("word_of" : Str), ("poly_of" : Str), ("_law_hand" : Str), ("_law_take" : Str), ("_law_many" : Str), ("_law_bits" : Str), ("_law_word" : Str), ("_law_terms" : Str), ("_law_poly" : Str), ("_law_word_right" : Str), ("_law_together_right" : Str)]
theorem run (w : World) : HandSHeadRun.RunEq R (PySem.W.view R.prog [37]) hk ob 2000 loose w := by
  intro os
  kernel_rfl
end YN
set_option Elab.async false
set_option linter.all false
set_option maxRecDepth 100000
set_option maxHeartbeats 4000000
namespace YN
open PySem PySem.Spec PyProof.Rows L2
section
variable {P : Program} {w : World} {K : PySem.W.Frag} {mg : Str → Option Value} {base : Heap}
/-- a def that stands in the module, with its promise -/
def Dn (P : Program) (w : World) (K : PySem.W.Frag) (mg : Str → Option Value) (base : Heap) (x : Str) (k : Nat) (ps : List Str) (sp : Sp) : Prop :=
  ∃ f fd, FnOk P w K mg base CX0 k f fd ps sp ∧ mg x = some (.ref f) ∧ PySem.W.keepIn K (.ref f) = true ∧ Binds K fd ps []
theorem Dn.mono {x : Str} {j k : Nat} {ps : List Str} {sp : Sp} (D : Dn P w K mg base x j ps sp) (h : j ≤ k) : Dn P w K mg base x k ps sp := by
  obtain ⟨f, fd, F, a, b, c⟩ := D
  exact ⟨f, fd, F.mono h, a, b, c⟩
theorem okF {N ps : List Str} {k : Nat} {sp : Sp} {x : Str} {st : Stmt} {f : Addr} {fd : FuncData} (F : FnP K x st f fd) (S : FnScope N ps (defScope st)) (len : ∀ vs H Q E, sp vs H Q E → vs.length = ps.length)
    (hbody : ∀ (cdv : Value) (A : Around) (outer : List Env) (s : Shared) (H : Hp) (vs : List V) (Q : VK) (E : XK), Room k (A.deeper (envOfC x (defScope st) s.heap.objs.size f cdv)) → sp vs H Q E →
      ∃ t, PSs (cxOf CX0 P w K mg base N x (defScope st) f cdv A outer s H E).nox (defBody st) t ∧ t { nx := fun _ H' => Q .non H', rt := Q } (start N vs) H) : FnOk P w K mg base CX0 (k + 1) f fd ps sp :=
  F.ok S len fun cdv A outer s H vs Q E hr h => by
    obtain ⟨t, ht, q⟩ := hbody cdv A outer s H vs Q E hr h
    exact ⟨t, ht.nox, q⟩
/-- a def by its body -/
theorem dn {N ps : List Str} {k : Nat} {sp : Sp} {x : Str} {st : Stmt} (h : ∃ f fd, FnP K x st f fd ∧ mg x = some (.ref f)) (S : FnScope N ps (defScope st)) (len : ∀ vs H Q E, sp vs H Q E → vs.length = ps.length)
    (hb : ∀ f fd, FnP K x st f fd → Binds K fd ps [])
    (hbody : ∀ (f : Addr) (cdv : Value) (A : Around) (outer : List Env) (s : Shared) (H : Hp) (vs : List V) (Q : VK) (E : XK), Room k (A.deeper (envOfC x (defScope st) s.heap.objs.size f cdv)) → sp vs H Q E →
      ∃ t, PSs (cxOf CX0 P w K mg base N x (defScope st) f cdv A outer s H E).nox (defBody st) t ∧ t { nx := fun _ H' => Q .non H', rt := Q } (start N vs) H) : Dn P w K mg base x (k + 1) ps sp := by
  obtain ⟨f, fd, F, g⟩ := h
  exact ⟨f, fd, okF F S len fun cdv => hbody f cdv, g, F.kp, hb f fd F⟩
end
section
variable {X : Cx} {k : Nat} {ps : List Str} {sp : Sp} {x : Str} {p pos : Pos} {e : Expr} {es : List Expr} {t : TA}
/-- f(e, ..) -/
theorem pe_dn (D : Dn X.prog X.w X.K X.mg X.base x k ps sp) (hr : Room k X.A) (hg : Gl X x) (ha : PA X (e :: es) t) (hx : Passes CX0 X E0 := by exact pass0) (hdb : (x == ("__debug__" : Str)) = false := by decide)
    (he : starEach (e :: es) X.env = (false, eval e X.env) :: starEach es X.env := by rfl) (hpl : (backTo pos (starEach es X.env)).any (·.1) = false := by rfl) : PE X (.Call (.Name x p) (e :: es) [] pos) (tCall sp [] E0 t) := by
  obtain ⟨f, fd, F, a, b, c⟩ := D
  exact pe_call F hr hg a b c .nil hx ha hdb he hpl
end
/-! ### data -/
abbrev vn (n : Nat) : V := .int (n : Int)
abbrev vns (l : List Nat) : List V := l.map vn
theorem vns_int (l : List Nat) : vns l = (l.map fun n : Nat => (n : Int)).map V.int := by rw [List.map_map]; rfl
theorem vns_app (l r : List Nat) : vns (l ++ r) = vns l ++ vns r := List.map_append
/-- a term: a tuple of its letters -/
def TmAt (H : Hp) (a : Addr) (t : List Nat) : Prop := H a = some (.tup (vns t))
abbrev TmsAt (H : Hp) (bs : List Addr) (ts : List (List Nat)) : Prop := Paired (TmAt H) bs ts
/-- a polynomial: a tuple of terms -/
def PoAt (H : Hp) (a : Addr) (ts : List (List Nat)) : Prop := ∃ bs, H a = some (.tup (bs.map .ref)) ∧ TmsAt H bs ts
/-- a list of terms -/
def PlAt (H : Hp) (a : Addr) (ts : List (List Nat)) : Prop := ∃ bs, H a = some (.lst (bs.map .ref)) ∧ TmsAt H bs ts
theorem TmAt.same {H H' : Hp} {a : Addr} {t : List Nat} (s : Same H H') (h : TmAt H a t) : TmAt H' a t := s _ _ h
theorem paired_imp {α β : Type} {F G : α → β → Prop} {l : List α} {r : List β} (h : Paired F l r) (f : ∀ a b, F a b → G a b) : Paired G l r := Paired.mapP h f
theorem TmsAt.same {H H' : Hp} {bs : List Addr} {ts : List (List Nat)} (s : Same H H') (h : TmsAt H bs ts) : TmsAt H' bs ts := paired_imp h fun _ _ q => q.same s
theorem PoAt.same {H H' : Hp} {a : Addr} {ts : List (List Nat)} (s : Same H H') (h : PoAt H a ts) : PoAt H' a ts := by
  obtain ⟨bs, e, h⟩ := h
  exact ⟨bs, s _ _ e, h.same s⟩
theorem PlAt.same {H H' : Hp} {a : Addr} {ts : List (List Nat)} (s : Same H H') (h : PlAt H a ts) : PlAt H' a ts := by
  obtain ⟨bs, e, h⟩ := h
  exact ⟨bs, s _ _ e, h.same s⟩
theorem paired_len {α β : Type} {F : α → β → Prop} : ∀ {l : List α} {r : List β}, Paired F l r → l.length = r.length
  | _, _, .nil => rfl
  | _, _, .cons _ t => congrArg (· + 1) (paired_len t)
theorem paired_get {α β : Type} {F : α → β → Prop} : ∀ {l : List α} {r : List β} {i : Nat} {a : α} {b : β}, Paired F l r → l[i]? = some a → r[i]? = some b → F a b
  | _, _, _, _, _, .nil, h, _ => by simp at h
  | _, _, 0, _, _, .cons q _, h, h' => by simp at h h'; subst h; subst h'; exact q
  | _, _, i + 1, _, _, .cons _ t, h, h' => paired_get (i := i) t (by simpa using h) (by simpa using h')
theorem paired_app {α β : Type} {F : α → β → Prop} : ∀ {l l' : List α} {r r' : List β}, Paired F l r → Paired F l' r' → Paired F (l ++ l') (r ++ r')
  | _, _, _, _, .nil, h => h
  | _, _, _, _, .cons q t, h => .cons q (paired_app t h)
theorem paired_take {α β : Type} {F : α → β → Prop} : ∀ {l : List α} {r : List β} (n : Nat), Paired F l r → Paired F (l.take n) (r.take n)
  | _, _, 0, _ => by simp; exact .nil
  | _, _, _ + 1, .nil => .nil
  | _, _, n + 1, .cons q t => .cons q (paired_take n t)
theorem paired_drop {α β : Type} {F : α → β → Prop} : ∀ {l : List α} {r : List β} (n : Nat), Paired F l r → Paired F (l.drop n) (r.drop n)
  | _, _, 0, h => h
  | _, _, _ + 1, .nil => .nil
  | _, _, n + 1, .cons _ t => paired_drop n t
theorem paired_of {α β : Type} {F : α → β → Prop} : ∀ {l : List α} {r : List β}, l.length = r.length → (∀ (i : Nat) (a : α) (b : β), l[i]? = some a → r[i]? = some b → F a b) → Paired F l r
  | [], [], _, _ => .nil
  | [], _ :: _, h, _ => by simp at h
  | _ :: _, [], h, _ => by simp at h
  | a :: l, b :: r, h, f => .cons (f 0 a b rfl rfl) (paired_of (by simpa using h) fun i a' b' h1 h2 => f (i + 1) a' b' (by simpa using h1) (by simpa using h2))
theorem same_new {H : Hp} {p : Addr} {o : HO} (h : H p = none) : Same H (upd H p o) := fun b x e => by
  rw [upd_ne (ne_of_none e h)]
  exact e
/-- an object that H does not know is written -/
theorem same_mut {H H' : Hp} {p : Addr} {o : HO} (e : Same H H') (h : H p = none) : Same H (upd H' p o) := fun a u ha => by
  rw [upd_ne (ne_of_none ha h)]
  exact e a u ha
theorem same_t {K : PySem.W.Frag} {H H' : Hp} {a : Addr} {xs : List V} (e : Same H H') (h : H a = some (.tup xs)) : SqT K H' a xs := .inl (.inl (e _ _ h))
theorem same_l {K : PySem.W.Frag} {H H' : Hp} {a : Addr} {xs : List V} (e : Same H H') (h : H a = some (.lst xs)) : SqL K H' a xs := .inl (.inl (e _ _ h))
theorem szl {n : Nat} (h : n ≤ 100000) : n ≤ sizeLine := Nat.le_trans h (by decide)
theorem szlt {n : Nat} (h : n < 100000) : n < sizeLine := Nat.lt_of_lt_of_le h (by decide)
theorem sum_vn (l : List Nat) : (l.map fun n : Nat => (n : Int)).sum = ((l.sum : Nat) : Int) := by
  induction l with
  | nil => rfl
  | cons a l ih => rw [List.map_cons, List.sum_cons, ih, List.sum_cons]; omega
end YN
set_option Elab.async false
set_option linter.all false
set_option maxRecDepth 100000
set_option maxHeartbeats 4000000
namespace YN
open PySem PySem.Spec PyProof.Rows L2
/-! ### operators on whole numbers that are not negative -/
def rN0 (g : Nat → Nat → V) : R2 := fun x y H Q => ∃ n m : Nat, x = vn n ∧ y = vn m ∧ Q (g n m) H
def rN (C : Nat → Nat → Prop) (g : Nat → Nat → V) : R2 := fun x y H Q => ∃ n m : Nat, x = vn n ∧ y = vn m ∧ C n m ∧ Q (g n m) H
section
variable {X : Cx}
theorem opN {f : Value → Value → Sem Value} {C : Int → Int → Prop} {g : Int → Int → V} {C' : Nat → Nat → Prop} {g' : Nat → Nat → V} (h : OpR X f (rI C g)) (hc : ∀ n m : Nat, C' n m → C n m ∧ g n m = g' n m) : OpR X f (rN C' g') := by
  intro pins s σ H x y v u Q I rx ry q
  obtain ⟨n, m, rfl, rfl, c, q⟩ := q
  obtain ⟨h1, h2⟩ := hc n m c
  exact h pins s σ H _ _ v u Q I rx ry ⟨n, m, rfl, rfl, h1, by rw [h2]; exact q⟩
theorem opN0 {f : Value → Value → Sem Value} {g : Int → Int → V} {g' : Nat → Nat → V} (h : OpR X f (rI0 g)) (hc : ∀ n m : Nat, g n m = g' n m) : OpR X f (rN0 g') := by
  intro pins s σ H x y v u Q I rx ry q
  obtain ⟨n, m, rfl, rfl, q⟩ := q
  exact h pins s σ H _ _ v u Q I rx ry ⟨n, m, rfl, rfl, by rw [hc]; exact q⟩
theorem xor_nn (n m : Nat) : Builtin.bitXor (n : Int) (m : Int) = ((n ^^^ m : Nat) : Int) := by
  rw [_root_.Bits.bitXor_pp (Int.natCast_nonneg n) (Int.natCast_nonneg m), Int.toNat_natCast, Int.toNat_natCast]
theorem or_nn (n m : Nat) : Builtin.bitOr (n : Int) (m : Int) = ((n ||| m : Nat) : Int) := by
  rw [_root_.Bits.bitOr_pp (Int.natCast_nonneg n) (Int.natCast_nonneg m), Int.toNat_natCast, Int.toNat_natCast]
theorem and_nn (n m : Nat) : Builtin.bitAnd (n : Int) (m : Int) = ((n &&& m : Nat) : Int) := rfl
theorem xorN : OpR X (binaryOp .BitXor) (rN0 fun n m => vn (n ^^^ m)) := opN0 op_xor fun n m => congrArg V.int (xor_nn n m)
theorem orN : OpR X (binaryOp .BitOr) (rN0 fun n m => vn (n ||| m)) := opN0 op_or fun n m => congrArg V.int (or_nn n m)
theorem andN : OpR X (binaryOp .BitAnd) (rN0 fun n m => vn (n &&& m)) := opN0 op_and fun n m => congrArg V.int (and_nn n m)
theorem addN : OpR X (binaryOp .Add) (rN0 fun n m => vn (n + m)) := opN0 op_add fun n m => congrArg V.int (Int.natCast_add n m).symm
theorem subN : OpR X (binaryOp .Sub) (rN (fun n m => m ≤ n) fun n m => vn (n - m)) := by
  intro pins s σ H x y v u Q I rx ry q
  obtain ⟨n, m, rfl, rfl, c, q⟩ := q
  refine op_sub pins s σ H _ _ v u Q I rx ry ⟨n, m, rfl, rfl, ?_⟩
  have e : V.int ((n : Int) - (m : Int)) = vn (n - m) := congrArg V.int (by omega)
  show Q (V.int ((n : Int) - (m : Int))) H
  rw [e]
  exact q
theorem mulN : OpR X (binaryOp .Mult) (rN (fun n m => n < 2 ^ 64 ∨ m < 2 ^ 64) fun n m => vn (n * m)) := opN op_mul fun n m c => by
  refine ⟨?_, congrArg V.int (Int.natCast_mul n m).symm⟩
  unfold CMul
  rcases c with c | c
  · exact .inl ⟨by omega, by omega⟩
  · exact .inr ⟨by omega, by omega⟩
theorem modN : OpR X (binaryOp .Mod) (rN (fun _ m => 0 < m) fun n m => vn (n % m)) := opN op_mod fun n m c => ⟨by omega, congrArg V.int (Int.natCast_emod n m).symm⟩
theorem divN : OpR X (binaryOp .FloorDiv) (rN (fun _ m => 0 < m ∧ m < 1073741824) fun n m => vn (n / m)) := opN op_fdiv fun n m c => ⟨⟨by omega, by omega⟩, congrArg V.int (Int.natCast_ediv n m).symm⟩
theorem cast_pow (a b : Nat) : ((a : Int)) ^ b = ((a ^ b : Nat) : Int) := by rw [Int.natCast_pow]
theorem shlN : OpR X (binaryOp .LShift) (rN (fun n m => n < 2 ^ 64 ∧ m ≤ 1000000) fun n m => vn (n <<< m)) := opN op_shl fun n m c => by
  refine ⟨⟨by omega, by omega, by omega⟩, congrArg V.int ?_⟩
  rw [Int.toNat_natCast, Nat.shiftLeft_eq, Int.natCast_mul, Int.natCast_pow]
  rfl
theorem shrN : OpR X (binaryOp .RShift) (rN0 fun n m => vn (n >>> m)) := by
  intro pins s σ H x y v u Q I rx ry q
  obtain ⟨n, m, rfl, rfl, q⟩ := q
  refine op_shr pins s σ H _ _ v u Q I rx ry ⟨n, m, rfl, rfl, by omega, ?_⟩
  have e : V.int ((n : Int) / 2 ^ (m : Int).toNat) = vn (n >>> m) := congrArg V.int (by rw [Int.toNat_natCast, Nat.shiftRight_eq_div_pow, Int.natCast_ediv, Int.natCast_pow]; rfl)
  show Q (V.int ((n : Int) / 2 ^ (m : Int).toNat)) H
  rw [e]
  exact q
theorem ltN : OpR X (compareOp .Lt) (rN0 fun n m => .bl (decide (n < m))) := opN0 op_lt fun n m => by simp only [Int.ofNat_lt]
theorem gtN : OpR X (compareOp .Gt) (rN0 fun n m => .bl (decide (m < n))) := opN0 op_gt fun n m => by simp only [Int.ofNat_lt]
theorem leN : OpR X (compareOp .LtE) (rN0 fun n m => .bl (decide (n ≤ m))) := opN0 op_le fun n m => by simp only [Int.ofNat_le]
theorem eqN : OpR X (compareOp .Eq) (rN0 fun n m => .bl (decide (n = m))) := by
  intro pins s σ H x y v u Q I rx ry q
  obtain ⟨n, m, rfl, rfl, q⟩ := q
  refine op_eq pins s σ H _ _ v u Q I rx ry ⟨rfl, ?_⟩
  have e : decide (vn n = vn m) = decide (n = m) := decide_eq_decide.mpr ⟨fun h => Int.ofNat.inj (V.int.inj h), fun h => by rw [h]⟩
  rw [e]
  exact q
theorem neN : OpR X (compareOp .NotEq) (rN0 fun n m => .bl (!decide (n = m))) := by
  intro pins s σ H x y v u Q I rx ry q
  obtain ⟨n, m, rfl, rfl, q⟩ := q
  refine op_ne pins s σ H _ _ v u Q I rx ry ⟨rfl, ?_⟩
  have e : decide (vn n = vn m) = decide (n = m) := decide_eq_decide.mpr ⟨fun h => Int.ofNat.inj (V.int.inj h), fun h => by rw [h]⟩
  rw [e]
  exact q
end
/-! ### a promise over data of one's own -/
def spG {α : Type} (args : α → List V) (pre : α → Hp → VK → Prop) : Sp := fun vs H Q _ => ∃ a, vs = args a ∧ pre a H Q
section
variable {P : Program} {w : World} {K : PySem.W.Frag} {mg : Str → Option Value} {base : Heap}
theorem dnG {α : Type} {args : α → List V} {pre : α → Hp → VK → Prop} {N ps : List Str} {k : Nat} {x : Str} {st : Stmt} (h : ∃ f fd, FnP K x st f fd ∧ mg x = some (.ref f)) (S : FnScope N ps (defScope st))
    (hb : ∀ f fd, FnP K x st f fd → Binds K fd ps []) (len : ∀ a, (args a).length = ps.length)
    (hbody : ∀ (f : Addr) (cdv : Value) (A : Around) (outer : List Env) (s : Shared) (H : Hp) (a : α) (Q : VK) (E : XK), Room k (A.deeper (envOfC x (defScope st) s.heap.objs.size f cdv)) → pre a H Q →
      ∃ t, PSs (cxOf CX0 P w K mg base N x (defScope st) f cdv A outer s H E).nox (defBody st) t ∧ t { nx := fun _ H' => Q .non H', rt := Q } (start N (args a)) H) : Dn P w K mg base x (k + 1) ps (spG args pre) :=
  dn h S (fun vs H Q E h => by
    obtain ⟨a, rfl, _⟩ := h
    exact len a) hb fun f cdv A outer s H vs Q E hr h => by
    obtain ⟨a, rfl, q⟩ := h
    exact hbody f cdv A outer s H a Q E hr q
end
/-- tuples stay -/
def Tups (H H' : Hp) : Prop := ∀ b xs, H b = some (.tup xs) → H' b = some (.tup xs)
theorem same_tups {H H' : Hp} (s : Same H H') : Tups H H' := fun b xs h => s b _ h
theorem Tups.trans {H H1 H2 : Hp} (a : Tups H H1) (b : Tups H1 H2) : Tups H H2 := fun c xs h => b c xs (a c xs h)
theorem tups_upd {H : Hp} {D : Addr} {xs : List V} {o : HO} (h : H D = some (.lst xs)) : Tups H (upd H D o) := fun b ys e => by
  rw [upd_ne (ne_of e h (by intro z; cases z))]
  exact e
theorem TmAt.tups {H H' : Hp} {a : Addr} {t : List Nat} (s : Tups H H') (h : TmAt H a t) : TmAt H' a t := s _ _ h
theorem TmsAt.tups {H H' : Hp} {bs : List Addr} {ts : List (List Nat)} (s : Tups H H') (h : TmsAt H bs ts) : TmsAt H' bs ts := paired_imp h fun _ _ q => q.tups s
/-! ### comprehensions: what each turn brings (none: not taken) -/
/-- what a comprehension's reading asks behind its source -/
abbrev LcRun (J : It) (g : TG) (tt : TT) (te : TE) (vs : List Nat) (σ : L2.St) (H1 : Hp) (D : Addr) (Qd : Hp → Prop) : Prop :=
  ∃ W : Nat → Nat → Hp → Prop, (∃ m, W 0 m (upd H1 D (.lst []))) ∧ ∀ i m H, W i m H →
      (J.stop i H ∧ Qd H) ∨ (J.go i H ∧ ∃ Nx : Hp → Prop, (∀ H', Nx H' → ∃ m', m' < m ∧ W (i + 1) m' H') ∧ ∀ x H', J.yld i H x H' → g x (wipe σ vs) H' fun σ2 H2 => wipe σ2 vs = wipe σ vs ∧ tt σ2 H2 fun b H3 =>
        if b = true then te σ2 H3 fun y H4 => ∃ acc, H4 D = some (.lst acc) ∧ acc.length < sizeLine ∧ Nx (upd H4 D (.lst (acc ++ [y]))) else Nx H3)
theorem lc_go {J : It} {n : Nat} {g : TG} {tt : TT} {te : TE} {vs : List Nat} {σ : L2.St} {H1 : Hp} {D : Addr} {Qd : Hp → Prop} (R : Hp → Nat → Option V → Prop) (nD : H1 D = none) (hn : n ≤ 100000)
    (mono : ∀ H H' i o, Tups H H' → R H i o → R H' i o)
    (hgo : ∀ i H, i < n → Same H1 H → J.go i H) (hstop : ∀ H, Same H1 H → J.stop n H)
    (hs : ∀ i H x H' (Qy : VK) (Qn : Hp → Prop), i < n → Same H1 H → J.yld i H x H' → (∀ y H4, Same H H4 → R H4 i (some y) → Qy y H4) → (∀ H3, Same H H3 → R H3 i none → Qn H3) →
      g x (wipe σ vs) H' fun σ2 H2 => wipe σ2 vs = wipe σ vs ∧ tt σ2 H2 fun b H3 => if b = true then te σ2 H3 Qy else Qn H3)
    (hd : ∀ H (os : List (Option V)), Same H1 H → os.length = n → (∀ i o, os[i]? = some o → R H i o) → H D = some (.lst (os.filterMap id)) → Qd H) :
    LcRun J g tt te vs σ H1 D Qd := by
  refine ⟨fun i m H => i + m = n ∧ Same H1 H ∧ ∃ os : List (Option V), os.length = i ∧ (∀ j o, os[j]? = some o → R H j o) ∧ H D = some (.lst (os.filterMap id)), ⟨n, by omega, same_new nD, [], rfl, fun j o h => by simp at h, upd_same⟩, ?_⟩
  rintro i m H ⟨em, sm, os, el, hR, hD⟩
  by_cases hi : i < n
  · refine .inr ⟨hgo i H hi sm, fun H' => (i + 1) + (m - 1) = n ∧ Same H1 H' ∧ ∃ os : List (Option V), os.length = i + 1 ∧ (∀ j o, os[j]? = some o → R H' j o) ∧ H' D = some (.lst (os.filterMap id)), fun H' h => ⟨m - 1, by omega, h⟩, fun x H' hy => ?_⟩
    refine hs i H x H' _ _ hi sm hy (fun y H4 s4 r4 => ?_) (fun H3 s3 r3 => ?_)
    · have hD4 : H4 D = some (.lst (os.filterMap id)) := s4 _ _ hD
      refine ⟨_, hD4, ?_, by omega, same_mut (Same.trans sm s4) nD, os ++ [some y], by simp [el], fun j o hj => ?_, ?_⟩
      · refine szlt (Nat.lt_of_le_of_lt (List.length_filterMap_le _ _) ?_)
        omega
      · have tp : Tups H (upd H4 D (.lst (os.filterMap id ++ [y]))) := (same_tups s4).trans (tups_upd hD4)
        by_cases hj2 : j < i
        · rw [List.getElem?_append_left (by omega)] at hj
          exact mono _ _ _ _ tp (hR j o hj)
        · have hji : j = i := by
            have := (List.getElem?_eq_some_iff.mp hj).1
            simp at this
            omega
          subst hji
          rw [List.getElem?_append_right (by omega)] at hj
          rw [el, Nat.sub_self] at hj
          have e : some y = o := Option.some.inj hj
          rw [← e]
          exact mono _ _ _ _ (tups_upd hD4) r4
      · rw [upd_same, List.filterMap_append]
        rfl
    · have hD4 : H3 D = some (.lst (os.filterMap id)) := s3 _ _ hD
      refine ⟨by omega, Same.trans sm s3, os ++ [none], by simp [el], fun j o hj => ?_, ?_⟩
      · by_cases hj2 : j < i
        · rw [List.getElem?_append_left (by omega)] at hj
          exact mono _ _ _ _ (same_tups s3) (hR j o hj)
        · have hji : j = i := by
            have := (List.getElem?_eq_some_iff.mp hj).1
            simp at this
            omega
          subst hji
          rw [List.getElem?_append_right (by omega)] at hj
          rw [el, Nat.sub_self] at hj
          have e : none = o := Option.some.inj hj
          rw [← e]
          exact r3
      · rw [hD4, List.filterMap_append]
        simp
  · have e : i = n := by omega
    subst e
    exact .inl ⟨hstop H sm, hd H os sm el hR hD⟩
theorem same_sq {K : PySem.W.Frag} {H H' : Hp} {a : Addr} {xs : List V} (e : Same H H') (h : SqL K H a xs) : SqL K H' a xs := e.seq h
theorem same_st {K : PySem.W.Frag} {H H' : Hp} {a : Addr} {xs : List V} (e : Same H H') (h : SqT K H a xs) : SqT K H' a xs := by
  rcases h with (h | ⟨o, h⟩) | h
  · exact .inl (.inl (e _ _ h))
  · exact .inl (.inr ⟨o, e _ _ h⟩)
  · exact .inr h
/-- all are taken: the list of what each turn brings -/
theorem all_taken {n : Nat} {H : Hp} {R : Nat → V → Prop} {os : List (Option V)} (h : ∀ i o, os[i]? = some o → ∃ y, o = some y ∧ R i y) : ∃ ys : List V, os = ys.map some ∧ ∀ i y, ys[i]? = some y → R i y := by
  refine ⟨os.filterMap id, ?_, fun i y hy => ?_⟩
  · clear n H
    induction os generalizing R with
    | nil => rfl
    | cons o os ih =>
      obtain ⟨y, e, _⟩ := h 0 o rfl
      subst e
      have := ih (R := fun i y => R (i + 1) y) fun i o hi => h (i + 1) o hi
      simp only [List.filterMap_cons, id_eq, List.map_cons, ← this]
  · clear n H
    induction os generalizing R i with
    | nil => simp at hy
    | cons o os ih =>
      obtain ⟨z, e, hz⟩ := h 0 o rfl
      subst e
      cases i with
      | zero =>
        simp at hy
        subst hy
        exact hz
      | succ i =>
        simp at hy
        exact ih (R := fun i y => R (i + 1) y) (fun i o hi => h (i + 1) o hi) i hy
theorem taken_filterMap (ys : List V) : (ys.map some).filterMap id = ys := by
  induction ys with
  | nil => rfl
  | cons y ys ih => simp [List.filterMap_cons, ih]
/-- without a test -/
theorem lc_all {J : It} {n : Nat} {g : TG} {te : TE} {vs : List Nat} {σ : L2.St} {H1 : Hp} {D : Addr} {Qd : Hp → Prop} (R : Hp → Nat → V → Prop) (nD : H1 D = none) (hn : n ≤ 100000)
    (mono : ∀ H H' i o, Tups H H' → R H i o → R H' i o)
    (hgo : ∀ i H, i < n → Same H1 H → J.go i H) (hstop : ∀ H, Same H1 H → J.stop n H)
    (hs : ∀ i H x H' (Qy : VK), i < n → Same H1 H → J.yld i H x H' → (∀ y H4, Same H H4 → R H4 i y → Qy y H4) → g x (wipe σ vs) H' fun σ2 H2 => wipe σ2 vs = wipe σ vs ∧ te σ2 H2 Qy)
    (hd : ∀ H (ys : List V), Same H1 H → ys.length = n → (∀ i y, ys[i]? = some y → R H i y) → H D = some (.lst ys) → Qd H)
    (hg : ∀ x σ H Q Q', (∀ σ2 H2, Q σ2 H2 → Q' σ2 H2) → g x σ H Q → g x σ H Q') :
    LcRun J g tYes te vs σ H1 D Qd := by
  refine lc_go (fun H i o => ∃ y, o = some y ∧ R H i y) nD hn (fun H H' i o tp ⟨y, e, r⟩ => ⟨y, e, mono H H' i y tp r⟩) hgo hstop (fun i H x H' Qy Qn hi sm hy h1 h2 => ?_) (fun H os sm el hR hD => ?_)
  · refine hg _ _ _ _ _ (fun σ2 H2 q => ⟨q.1, ?_⟩) (hs i H x H' Qy hi sm hy fun y H4 s4 r4 => h1 y H4 s4 ⟨y, rfl, r4⟩)
    show (if true = true then te σ2 H2 Qy else Qn H2)
    exact iteT q.2
  · obtain ⟨ys, e, hy⟩ := all_taken (n := n) (H := H) hR
    subst e
    rw [taken_filterMap] at hD
    exact hd H ys sm (by simpa using el) hy hD
section
variable {K : PySem.W.Frag} {a : Addr} {xs : List V} {g : TG} {tt : TT} {te : TE} {vs : List Nat} {σ : L2.St} {H1 : Hp} {D : Addr} {Qd : Hp → Prop}
theorem goL (hS : SqL K H1 a xs) : (∀ i H, i < xs.length → Same H1 H → (Itl K a).go i H) ∧ (∀ H, Same H1 H → (Itl K a).stop xs.length H) ∧ ∀ i H x H', Same H1 H → (Itl K a).yld i H x H' → H' = H ∧ xs[i]? = some x :=
  ⟨fun i H hi sm => ⟨xs, xs[i], same_sq sm hS, List.getElem?_eq_getElem hi⟩, fun H sm => ⟨xs, same_sq sm hS, Nat.le_refl _⟩, fun i H x H' sm ⟨e, f⟩ => ⟨e, f xs (same_sq sm hS)⟩⟩
theorem goT (hS : SqT K H1 a xs) : (∀ i H, i < xs.length → Same H1 H → (Itt K a).go i H) ∧ (∀ H, Same H1 H → (Itt K a).stop xs.length H) ∧ ∀ i H x H', Same H1 H → (Itt K a).yld i H x H' → H' = H ∧ xs[i]? = some x :=
  ⟨fun i H hi sm => ⟨xs, xs[i], same_st sm hS, List.getElem?_eq_getElem hi⟩, fun H sm => ⟨xs, same_st sm hS, Nat.le_refl _⟩, fun i H x H' sm ⟨e, f⟩ => ⟨e, f xs (same_st sm hS)⟩⟩
/-- over a list, without a test -/
theorem lcL (hS : SqL K H1 a xs) (R : Hp → Nat → V → Prop) (nD : H1 D = none) (hn : xs.length ≤ 100000) (mono : ∀ H H' i o, Tups H H' → R H i o → R H' i o)
    (hs : ∀ i H x (Qy : VK), xs[i]? = some x → Same H1 H → (∀ y H4, Same H H4 → R H4 i y → Qy y H4) → g x (wipe σ vs) H fun σ2 H2 => wipe σ2 vs = wipe σ vs ∧ te σ2 H2 Qy)
    (hd : ∀ H (ys : List V), Same H1 H → ys.length = xs.length → (∀ i y, ys[i]? = some y → R H i y) → H D = some (.lst ys) → Qd H)
    (hg : ∀ x σ H Q Q', (∀ σ2 H2, Q σ2 H2 → Q' σ2 H2) → g x σ H Q → g x σ H Q') : LcRun (Itl K a) g tYes te vs σ H1 D Qd :=
  lc_all (J := Itl K a) (g := g) (te := te) (vs := vs) (σ := σ) R nD hn mono (goL hS).1 (goL hS).2.1 (fun i H x H' Qy hi sm hy h => by
    obtain ⟨e, hx⟩ := (goL hS).2.2 i H x H' sm hy
    subst e
    exact hs i _ x Qy hx sm h) hd hg
/-- over a tuple, without a test -/
theorem lcT (hS : SqT K H1 a xs) (R : Hp → Nat → V → Prop) (nD : H1 D = none) (hn : xs.length ≤ 100000) (mono : ∀ H H' i o, Tups H H' → R H i o → R H' i o)
    (hs : ∀ i H x (Qy : VK), xs[i]? = some x → Same H1 H → (∀ y H4, Same H H4 → R H4 i y → Qy y H4) → g x (wipe σ vs) H fun σ2 H2 => wipe σ2 vs = wipe σ vs ∧ te σ2 H2 Qy)
    (hd : ∀ H (ys : List V), Same H1 H → ys.length = xs.length → (∀ i y, ys[i]? = some y → R H i y) → H D = some (.lst ys) → Qd H)
    (hg : ∀ x σ H Q Q', (∀ σ2 H2, Q σ2 H2 → Q' σ2 H2) → g x σ H Q → g x σ H Q') : LcRun (Itt K a) g tYes te vs σ H1 D Qd :=
  lc_all (J := Itt K a) (g := g) (te := te) (vs := vs) (σ := σ) R nD hn mono (goT hS).1 (goT hS).2.1 (fun i H x H' Qy hi sm hy h => by
    obtain ⟨e, hx⟩ := (goT hS).2.2 i H x H' sm hy
    subst e
    exact hs i _ x Qy hx sm h) hd hg
/-- over a range, without a test -/
theorem lcR {lo : Int} {n : Nat} (R : Hp → Nat → V → Prop) (nD : H1 D = none) (hn : n ≤ 100000) (mono : ∀ H H' i o, Tups H H' → R H i o → R H' i o)
    (hs : ∀ i H (Qy : VK), i < n → Same H1 H → (∀ y H4, Same H H4 → R H4 i y → Qy y H4) → g (.int (lo + i)) (wipe σ vs) H fun σ2 H2 => wipe σ2 vs = wipe σ vs ∧ te σ2 H2 Qy)
    (hd : ∀ H (ys : List V), Same H1 H → ys.length = n → (∀ i y, ys[i]? = some y → R H i y) → H D = some (.lst ys) → Qd H)
    (hg : ∀ x σ H Q Q', (∀ σ2 H2, Q σ2 H2 → Q' σ2 H2) → g x σ H Q → g x σ H Q') : LcRun (Itr lo n) g tYes te vs σ H1 D Qd :=
  lc_all (J := Itr lo n) (g := g) (te := te) (vs := vs) (σ := σ) R nD hn mono (fun i H hi _ => hi) (fun H _ => Nat.le_refl n) (fun i H x H' Qy hi sm hy h => by
    obtain ⟨e, hx⟩ := hy
    subst e hx
    exact hs i _ Qy hi sm h) hd hg
/-- over a range with a step, without a test -/
theorem lcC {lo c : Int} {n : Nat} (R : Hp → Nat → V → Prop) (nD : H1 D = none) (hn : n ≤ 100000) (mono : ∀ H H' i o, Tups H H' → R H i o → R H' i o)
    (hs : ∀ i H (Qy : VK), i < n → Same H1 H → (∀ y H4, Same H H4 → R H4 i y → Qy y H4) → g (.int (lo + (i : Nat) * c)) (wipe σ vs) H fun σ2 H2 => wipe σ2 vs = wipe σ vs ∧ te σ2 H2 Qy)
    (hd : ∀ H (ys : List V), Same H1 H → ys.length = n → (∀ i y, ys[i]? = some y → R H i y) → H D = some (.lst ys) → Qd H)
    (hg : ∀ x σ H Q Q', (∀ σ2 H2, Q σ2 H2 → Q' σ2 H2) → g x σ H Q → g x σ H Q') : LcRun (Itc lo c n) g tYes te vs σ H1 D Qd :=
  lc_all (J := Itc lo c n) (g := g) (te := te) (vs := vs) (σ := σ) R nD hn mono (fun i H hi _ => hi) (fun H _ => Nat.le_refl n) (fun i H x H' Qy hi sm hy h => by
    obtain ⟨e, hx⟩ := hy
    subst e hx
    exact hs i _ Qy hi sm h) hd hg
/-- over zip of two tuples, without a test -/
theorem lcZ {b : Addr} {ys : List V} {n : Nat} (hS : SqT K H1 a xs) (hS2 : SqT K H1 b ys) (hl : n ≤ xs.length ∧ n ≤ ys.length ∧ (xs.length = n ∨ ys.length = n)) (R : Hp → Nat → V → Prop) (nD : H1 D = none) (hn : n ≤ 100000) (mono : ∀ H H' i o, Tups H H' → R H i o → R H' i o)
    (hs : ∀ i H x y T (Qy : VK), xs[i]? = some x → ys[i]? = some y → Same H1 H → H T = none → (∀ z H4, Same H H4 → R H4 i z → Qy z H4) → g (.ref T) (wipe σ vs) (upd H T (.tup [x, y])) fun σ2 H2 => wipe σ2 vs = wipe σ vs ∧ te σ2 H2 Qy)
    (hd : ∀ H (zs : List V), Same H1 H → zs.length = n → (∀ i y, zs[i]? = some y → R H i y) → H D = some (.lst zs) → Qd H)
    (hg : ∀ x σ H Q Q', (∀ σ2 H2, Q σ2 H2 → Q' σ2 H2) → g x σ H Q → g x σ H Q') : LcRun (RZ.ItzT K a b) g tYes te vs σ H1 D Qd :=
  lc_all (J := RZ.ItzT K a b) (g := g) (te := te) (vs := vs) (σ := σ) R nD hn mono
    (fun i H hi sm => ⟨xs, ys, xs[i]'(by omega), ys[i]'(by omega), same_st sm hS, same_st sm hS2, List.getElem?_eq_getElem (by omega), List.getElem?_eq_getElem (by omega)⟩)
    (fun H sm => ⟨xs, ys, same_st sm hS, same_st sm hS2, by omega⟩) (fun i H v H' Qy hi sm hy h => by
    obtain ⟨T, x, y, rfl, nT, rfl, f1, f2⟩ := hy
    exact hs i _ x y T Qy (f1 _ (same_st sm hS)) (f2 _ (same_st sm hS2)) sm nT h) hd hg
/-- the same, the items as natural numbers -/
theorem lcRN {n : Nat} (R : Hp → Nat → V → Prop) (nD : H1 D = none) (hn : n ≤ 100000) (mono : ∀ H H' i o, Tups H H' → R H i o → R H' i o)
    (hs : ∀ i H (Qy : VK), i < n → Same H1 H → (∀ y H4, Same H H4 → R H4 i y → Qy y H4) → g (vn i) (wipe σ vs) H fun σ2 H2 => wipe σ2 vs = wipe σ vs ∧ te σ2 H2 Qy)
    (hd : ∀ H (ys : List V), Same H1 H → ys.length = n → (∀ i y, ys[i]? = some y → R H i y) → H D = some (.lst ys) → Qd H)
    (hg : ∀ x σ H Q Q', (∀ σ2 H2, Q σ2 H2 → Q' σ2 H2) → g x σ H Q → g x σ H Q') : LcRun (Itr 0 n) g tYes te vs σ H1 D Qd :=
  lcR R nD hn mono (fun i H Qy hi sm h => by
    have e : V.int (0 + (i : Int)) = vn i := congrArg V.int (by omega)
    rw [e]
    exact hs i H Qy hi sm h) hd hg
theorem lcCN {c n : Nat} (R : Hp → Nat → V → Prop) (nD : H1 D = none) (hn : n ≤ 100000) (mono : ∀ H H' i o, Tups H H' → R H i o → R H' i o)
    (hs : ∀ i H (Qy : VK), i < n → Same H1 H → (∀ y H4, Same H H4 → R H4 i y → Qy y H4) → g (vn (i * c)) (wipe σ vs) H fun σ2 H2 => wipe σ2 vs = wipe σ vs ∧ te σ2 H2 Qy)
    (hd : ∀ H (ys : List V), Same H1 H → ys.length = n → (∀ i y, ys[i]? = some y → R H i y) → H D = some (.lst ys) → Qd H)
    (hg : ∀ x σ H Q Q', (∀ σ2 H2, Q σ2 H2 → Q' σ2 H2) → g x σ H Q → g x σ H Q') : LcRun (Itc 0 (c : Int) n) g tYes te vs σ H1 D Qd :=
  lcC R nD hn mono (fun i H Qy hi sm h => by
    have e : V.int (0 + (i : Int) * (c : Int)) = vn (i * c) := congrArg V.int (by rw [Int.natCast_mul]; omega)
    rw [e]
    exact hs i H Qy hi sm h) hd hg
theorem forN {n : Nat} {tb : TS} {Ds : Ends} {σ : L2.St} {H : Hp} (Pv : Nat → L2.St → Hp → Prop) (h0 : Pv 0 σ H)
    (hs : ∀ i σ H, i < n → Pv i σ H → g (vn i) σ H fun σ2 H2 => tb { Ds with nx := Pv (i + 1), ct := Pv (i + 1), bk := Ds.nx } σ2 H2) (hd : ∀ σ H, Pv n σ H → Ds.nx σ H) :
    ∃ W : Nat → Nat → L2.St → Hp → Prop, (∃ m, W 0 m σ H) ∧ ∀ i m σ H, W i m σ H →
      ((Itr 0 n).stop i H ∧ Ds.nx σ H) ∨ ((Itr 0 n).go i H ∧ ∃ N : L2.St → Hp → Prop, (∀ σ' H', N σ' H' → ∃ m', m' < m ∧ W (i + 1) m' σ' H') ∧ ∀ x H', (Itr 0 n).yld i H x H' → g x σ H' fun σ2 H2 => tb { Ds with nx := N, ct := N, bk := Ds.nx } σ2 H2) :=
  for_range Pv h0 (fun i σ H hi p => by
    have e : V.int (0 + (i : Int)) = vn i := congrArg V.int (by omega)
    rw [e]
    exact hs i σ H hi p) hd
end
theorem shl_one (q : Nat) : 1 <<< q = 2 ^ q := by rw [Nat.shiftLeft_eq, Nat.one_mul]
/-- a list of numbers told one by one -/
theorem vals_are {n : Nat} {f : Nat → Nat} {ys : List V} (h : ys.length = n) (hf : ∀ (i : Nat) (y : V), ys[i]? = some y → y = vn (f i)) : ys = vns ((List.range n).map f) := by
  refine List.ext_getElem? fun i => ?_
  rcases Nat.lt_or_ge i ys.length with hi | hi
  · rw [List.getElem?_map, List.getElem?_map, List.getElem?_range (by omega), List.getElem?_eq_getElem hi, hf i _ (List.getElem?_eq_getElem hi)]
    rfl
  · rw [List.getElem?_eq_none hi, List.getElem?_eq_none (by simp; omega)]
theorem trues_are {n : Nat} {ys : List V} (h : ys.length = n) (hf : ∀ (i : Nat) (y : V), ys[i]? = some y → y = .bl true) : ys = (List.replicate n true).map V.bl := by
  refine List.ext_getElem? fun i => ?_
  rcases Nat.lt_or_ge i ys.length with hi | hi
  · rw [List.getElem?_map, List.getElem?_replicate, if_pos (by omega), List.getElem?_eq_getElem hi, hf i _ (List.getElem?_eq_getElem hi)]
    rfl
  · rw [List.getElem?_eq_none hi, List.getElem?_eq_none (by simp; omega)]
theorem all_trues (n : Nat) : (List.replicate n true).all id = true := by
  rw [List.all_eq_true]
  intro b hb
  exact (List.mem_replicate.mp hb).2
theorem neq_same (n : Nat) : V.bl (!decide (n = n)) = V.bl false := by rw [decide_eq_true rfl]; rfl
theorem eq_same (n : Nat) : V.bl (decide (n = n)) = V.bl true := by rw [decide_eq_true rfl]
/-! ### rules that name the written part, for a comprehension's element -/
section
variable {X : Cx} {K : PySem.W.Frag}
theorem ix_tupK (h : X.K = K) : IxR X (rIxT K) := by rw [← h]; exact ix_tup
theorem ix_listK (h : X.K = K) : IxR X (rIxL K) := by rw [← h]; exact ix_list
theorem call_lenK (h : X.K = K) : CallR X (.builtin "len") (fun xs H Q => ∃ p ys, xs = [.ref p] ∧ (SqL K H p ys ∨ SqT K H p ys) ∧ Q (.int ys.length) H) := by rw [← h]; exact call_len_seq
theorem cr_sumK (hc : X.calm = true) (h : X.K = K) : CallR X (.builtin "sum") (rSum K) := by rw [← h]; exact cr_sum hc
theorem catAK (h : X.K = K) : OpR X (binaryOp .Add) (rCatA K) := by rw [← h]; exact op_catA
end
theorem gName_mono (j : Nat) : ∀ (x : V) (σ : L2.St) (H : Hp) (Q Q' : L2.St → Hp → Prop), (∀ σ2 H2, Q σ2 H2 → Q' σ2 H2) → gName j x σ H Q → gName j x σ H Q' := fun x σ H Q Q' h q => h _ _ q
end YN
set_option Elab.async false
set_option linter.all false
set_option maxRecDepth 100000
set_option maxHeartbeats 4000000
namespace YN
open PySem PySem.Spec PyProof.Rows L2
theorem sc_is_whole : FnScope ["thing"] ["thing"] (defScope s_is_whole) := ⟨rfl, rfl, rfl, by decide +kernel, rfl, by decide +kernel, by decide +kernel⟩
theorem sc_is_word : FnScope ["many", "thing"] ["many", "thing"] (defScope s_is_word) := ⟨rfl, rfl, rfl, by decide +kernel, rfl, by decide +kernel, by decide +kernel⟩
theorem sc_says : FnScope ["word", "place"] ["word", "place"] (defScope s_says) := ⟨rfl, rfl, rfl, by decide +kernel, rfl, by decide +kernel, by decide +kernel⟩
theorem sc_where : FnScope ["word", "found", "place"] ["word"] (defScope s_where) := ⟨rfl, rfl, rfl, by decide +kernel, rfl, by decide +kernel, by decide +kernel⟩
theorem sc_word_at : FnScope ["some", "place"] ["some"] (defScope s_word_at) := ⟨rfl, rfl, rfl, by decide +kernel, rfl, by decide +kernel, by decide +kernel⟩
theorem sc_plus : FnScope ["one", "other"] ["one", "other"] (defScope s_plus) := ⟨rfl, rfl, rfl, by decide +kernel, rfl, by decide +kernel, by decide +kernel⟩
theorem sc_times : FnScope ["one", "other"] ["one", "other"] (defScope s_times) := ⟨rfl, rfl, rfl, by decide +kernel, rfl, by decide +kernel, by decide +kernel⟩
section
variable {P : Program} {w : World} {K : PySem.W.Frag} {mg : Str → Option Value} {base : Heap}
/-! ### words.py -/
def spWhole : Sp := spG (fun i : Int => [.int i]) fun _ H Q => Q (.bl true) H
theorem dn_is_whole (T : Txt K mg) : Dn P w K mg base "is_whole" 1 ["thing"] spWhole := by
  refine dnG (N := ["thing"]) T.d_is_whole sc_is_whole (fun f fd F => FunD.bindsN (ps := ["thing"]) F fun _ _ _ _ _ _ us hl => match us, hl with | [_], _ => rfl) (fun _ => rfl) (fun f cdv A outer s H a Q E hr h => ?_)
  refine ⟨_, pss_one (ps_ret (pe_and (pe_callB call_isi (by rfl) T.n_isinstance (by decide +kernel) (pa_cons (pv 0) (pa_cons (pe_bltn (v := .ty "int") (by rfl) T.n_int (by decide +kernel) rfl) pa_nil)))
      (pe_one (pe_not (pe_callB call_isi (by rfl) T.n_isinstance (by decide +kernel) (pa_cons (pv 0) (pa_cons (pe_bltn (v := .ty "bool") (by rfl) T.n_bool (by decide +kernel) rfl) pa_nil))))))), ?_⟩
  refine ⟨_, rfl, _, _, _, _, true, rfl, .ty "int", .base (.int a), kit_ty (by decide +kernel), true, rfl, iteT ?_⟩
  exact ⟨_, rfl, _, _, _, _, false, rfl, .ty "bool", .base (.int a), kit_ty (by decide +kernel), false, rfl, h⟩
def spSays : Sp := spG (fun a : Nat × Nat => [vn a.1, vn a.2]) fun a H Q => Q (vn (a.1.testBit a.2).toNat) H
theorem dn_says (T : Txt K mg) : Dn P w K mg base "says" 1 ["word", "place"] spSays := by
  refine dnG (N := ["word", "place"]) T.d_says sc_says (fun f fd F => FunD.bindsN (ps := ["word", "place"]) F fun _ _ _ _ _ _ us hl => match us, hl with | [_, _], _ => rfl) (fun _ => rfl) (fun f cdv A outer s H a Q E hr h => ?_)
  refine ⟨_, pss_one (ps_ret (pe_op modN (pe_op shrN (pv 0) (pv 1)) pe_int)), ?_⟩
  refine ⟨_, rfl, _, rfl, _, _, rfl, rfl, a.1 >>> a.2, 2, rfl, rfl, Nat.zero_lt_two, ?_⟩
  have e : a.1 >>> a.2 % 2 = (a.1.testBit a.2).toNat := by
    rw [Nat.toNat_testBit, Nat.shiftRight_eq_div_pow]
  show Q (vn (a.1 >>> a.2 % 2)) H
  rw [e]
  exact h
def spPlus : Sp := spG (fun a : Nat × Nat => [vn a.1, vn a.2]) fun a H Q => Q (vn (a.1 ^^^ a.2)) H
theorem dn_plus (T : Txt K mg) : Dn P w K mg base "plus" 1 ["one", "other"] spPlus := by
  refine dnG (N := ["one", "other"]) T.d_plus sc_plus (fun f fd F => FunD.bindsN (ps := ["one", "other"]) F fun _ _ _ _ _ _ us hl => match us, hl with | [_, _], _ => rfl) (fun _ => rfl) (fun f cdv A outer s H a Q E hr h => ?_)
  refine ⟨_, pss_one (ps_ret (pe_op xorN (pv 0) (pv 1))), ?_⟩
  exact ⟨_, rfl, _, rfl, _, _, rfl, rfl, h⟩
def spTimes : Sp := spG (fun a : Nat × Nat => [vn a.1, vn a.2]) fun a H Q => Q (vn (a.1 &&& a.2)) H
theorem dn_times (T : Txt K mg) : Dn P w K mg base "times" 1 ["one", "other"] spTimes := by
  refine dnG (N := ["one", "other"]) T.d_times sc_times (fun f fd F => FunD.bindsN (ps := ["one", "other"]) F fun _ _ _ _ _ _ us hl => match us, hl with | [_, _], _ => rfl) (fun _ => rfl) (fun f cdv A outer s H a Q E hr h => ?_)
  refine ⟨_, pss_one (ps_ret (pe_op andN (pv 0) (pv 1))), ?_⟩
  exact ⟨_, rfl, _, rfl, _, _, rfl, rfl, h⟩
/-- is_word, of a word -/
def spIsWord : Sp := spG (fun a : Nat × Nat => [vn a.1, vn a.2]) fun a H Q => a.1 ≤ 6 ∧ a.2 < 2 ^ 2 ^ a.1 ∧ Q (.bl true) H
theorem dn_is_word (T : Txt K mg) : Dn P w K mg base "is_word" 2 ["many", "thing"] spIsWord := by
  refine dnG (N := ["many", "thing"]) T.d_is_word sc_is_word (fun f fd F => FunD.bindsN (ps := ["many", "thing"]) F fun _ _ _ _ _ _ us hl => match us, hl with | [_, _], _ => rfl) (fun _ => rfl) (fun f cdv A outer s H a Q E hr h => ?_)
  have hr1 : Room 1 _ := hr
  refine ⟨_, pss_one (ps_ret (pe_and (pe_dn (dn_is_whole T) hr1 (by rfl) (pa_cons (pv 1) pa_nil))
      (pe_one (pe_chain leN ltN pe_int (pv 1) (pe_op shlN pe_int (pe_op shlN pe_int (pv 0))))))), ?_⟩
  obtain ⟨h1, h2, q⟩ := h
  have p1 : 1 <<< a.1 = 2 ^ a.1 := by rw [Nat.shiftLeft_eq, Nat.one_mul]
  have p2 : 1 <<< 2 ^ a.1 = 2 ^ 2 ^ a.1 := by rw [Nat.shiftLeft_eq, Nat.one_mul]
  have l1 : 2 ^ a.1 ≤ 64 := pow_le64 h1
  refine ⟨_, rfl, _, rfl, true, rfl, iteT ?_⟩
  refine ⟨_, rfl, 0, a.2, rfl, rfl, true, congrArg V.bl (decide_eq_true (Nat.zero_le _)), iteT ?_⟩
  refine ⟨_, rfl, 1, a.1, rfl, rfl, ⟨by decide, by omega⟩, ?_⟩
  refine ⟨1, 1 <<< a.1, rfl, rfl, ⟨by decide, by rw [p1]; omega⟩, ?_⟩
  refine ⟨a.2, 1 <<< (1 <<< a.1), rfl, rfl, ?_⟩
  dsimp only
  rw [p1, p2, decide_eq_true h2]
  exact q
/-- the places of a word -/
def spWhere : Sp := spG (fun n : Nat => [vn n]) fun n H Q => n < 2 ^ 64 ∧ ∀ H' p, Same H H' → H' p = some (.tup (vns (bits n))) → Q (.ref p) H'
theorem wh_step {n i : Nat} : (List.range (i + 1)).filter n.testBit = (List.range i).filter n.testBit ++ (if (n / 2 ^ i) % 2 = 1 then [i] else []) := by
  rw [List.range_succ, List.filter_append]
  have e : n.testBit i = decide ((n / 2 ^ i) % 2 = 1) := Nat.testBit_eq_decide_div_mod_eq
  by_cases h : (n / 2 ^ i) % 2 = 1
  · rw [if_pos h]
    simp [e, h]
  · rw [if_neg h]
    simp [e, h]
theorem wh_end {n i : Nat} (hi : i ≤ 64) (h : n / 2 ^ i = 0) : (List.range i).filter n.testBit = bits n := by
  refine rise_one (R := (· < ·)) (fun a => Nat.lt_irrefl a) (fun a b h => Nat.not_lt.mpr (Nat.le_of_lt h)) (List.Pairwise.filter _ List.pairwise_lt_range) (bits_lt n) fun j => ?_
  rw [List.mem_filter, List.mem_range, mem_bits]
  constructor
  · rintro ⟨h1, h2⟩
    exact ⟨by omega, h2⟩
  · rintro ⟨h1, h2⟩
    refine ⟨?_, h2⟩
    have h3 := Nat.ge_two_pow_of_testBit h2
    have h4 : n < 2 ^ i := by
      have := (Nat.div_eq_zero_iff).mp h
      have hp := Nat.two_pow_pos i
      omega
    exact (Nat.pow_lt_pow_iff_right (by decide)).mp (Nat.lt_of_le_of_lt h3 h4)
theorem dn_where (T : Txt K mg) : Dn P w K mg base "where" 1 ["word"] spWhere := by
  refine dnG (N := ["word", "found", "place"]) T.d_where sc_where (fun f fd F => FunD.bindsN (ps := ["word"]) F fun _ _ _ _ _ _ us hl => match us, hl with | [_], _ => rfl) (fun _ => rfl) (fun f cdv A outer s H a Q E hr h => ?_)
  refine ⟨_, pss_cons (ps_set (i := 1) sc_where.nd rfl (.inl rfl) (pe_lst pa_nil))
    (pss_cons (ps_set (i := 2) sc_where.nd rfl (.inl rfl) pe_int)
    (pss_cons (ps_while PassesOwn.never (pt_cmpR gtN (pv 0) pe_int (nomark _))
      (pss_cons (ps_if (pt_cmpR eqN (pe_op modN (pv 0) pe_int) pe_int (nomark _))
        (pss_one (ps_expr (pe_bm PySem.F.plainAttrs_list PySem.F.slot_list_append PySem.F.type_list_append mt_append (pv 1) (pa_cons (pv 2) pa_nil)))) pss_nil)
      (pss_cons (ps_set (i := 0) sc_where.nd rfl (.inl rfl) (pe_op divN (pv 0) pe_int))
      (pss_one (ps_aug (i := 2) sc_where.nd rfl (.inl rfl) pe_int ip_add)))))
    (pss_one (ps_ret (pe_callTy call_tuple_of (by rfl) T.n_tuple (by decide +kernel) (pa_cons (pv 1) pa_nil)))))), ?_⟩
  obtain ⟨h64, q⟩ := h
  refine ⟨Nat.zero_le _, fun o no => ?_⟩
  refine while_by (fun σ H3 => ∃ i : Nat, i ≤ 64 ∧ σ = [some (vn (a / 2 ^ i)), some (.ref o), some (vn i)] ∧ Same H H3 ∧ H3 o = some (.lst (vns ((List.range i).filter a.testBit)))) (fun σ _ => match σ with | [some (.int n), _, _] => n.toNat | _ => 0)
    ⟨0, by omega, by rw [Nat.pow_zero, Nat.div_one]; rfl, same_new no, upd_same⟩ ?_ ?_
  · rintro σ H3 ⟨i, hi, rfl, sm, ho⟩
    refine ⟨_, rfl, a / 2 ^ i, 0, rfl, rfl, _, rfl, ?_⟩
    by_cases hz : 0 < a / 2 ^ i
    · rw [decide_eq_true hz]
      refine iteT ?_
      have hi2 : i < 64 := by
        rcases Nat.lt_or_ge i 64 with z | z
        · exact z
        · have : a / 2 ^ i = 0 := Nat.div_eq_of_lt (Nat.lt_of_lt_of_le h64 (Nat.pow_le_pow_right (by decide) z))
          omega
      have ed : a / 2 ^ i / 2 = a / 2 ^ (i + 1) := by rw [Nat.div_div_eq_div_mul, Nat.pow_succ]
      have hlt : a / 2 ^ i / 2 < a / 2 ^ i := Nat.div_lt_self hz (by decide)
      refine ⟨_, rfl, a / 2 ^ i, 2, rfl, rfl, Nat.zero_lt_two, _, 1, rfl, rfl, _, rfl, ite2 (fun e => ?_) (fun e => ?_)⟩
      · have e1 : a / 2 ^ i % 2 = 1 := of_decide_eq_true e
        refine ⟨_, rfl, .inl ⟨rfl, _, SqL.of ho⟩, _, rfl, o, _, _, rfl, rfl, ho, ?_, ?_⟩
        · refine szlt ?_
          have := List.length_filter_le a.testBit (List.range i)
          rw [List.length_map]
          rw [List.length_range] at this
          omega
        · refine ⟨_, rfl, _, 2, rfl, rfl, ⟨by decide, by decide⟩, _, rfl, _, _, rfl, rfl, ⟨i + 1, by omega, ?_, same_mut sm no, ?_⟩, ?_⟩
          · rw [← ed]; rfl
          · rw [upd_same, wh_step, if_pos e1, vns_app]; rfl
          · show (((a / 2 ^ i / 2 : Nat) : Int)).toNat < (((a / 2 ^ i : Nat) : Int)).toNat
            omega
      · have e1 : ¬ a / 2 ^ i % 2 = 1 := fun z => e (decide_eq_true z)
        refine ⟨_, rfl, _, 2, rfl, rfl, ⟨by decide, by decide⟩, _, rfl, _, _, rfl, rfl, ⟨i + 1, by omega, ?_, sm, ?_⟩, ?_⟩
        · rw [← ed]; rfl
        · rw [ho, wh_step, if_neg e1, List.append_nil]
        · show (((a / 2 ^ i / 2 : Nat) : Int)).toNat < (((a / 2 ^ i : Nat) : Int)).toNat
          omega
    · rw [decide_eq_false hz]
      refine iteF ?_
      refine ⟨_, rfl, o, _, rfl, .inl ⟨SqL.of ho, fun p np => ?_⟩⟩
      refine q _ p (same_new np |> Same.trans sm) ?_
      rw [upd_same, wh_end hi (Nat.eq_zero_of_not_pos hz)]
  · intro σ H Q Q' hQ h
    obtain ⟨v, e, n, m, e1, e2, k, e3, h⟩ := h
    exact ⟨v, e, n, m, e1, e2, k, e3, hQ _ _ h⟩
/-- word_at, of a list | of a tuple -/
def spWordAtL (K : PySem.W.Frag) : Sp := spG (fun x : Addr × List Nat => [.ref x.1]) fun x H Q => SqL K H x.1 (vns x.2) ∧ (∀ q ∈ x.2, q ≤ 100000) ∧ x.2.length ≤ 1000 ∧ ∀ H', Same H H' → Q (vn (wat x.2)) H'
def spWordAtT (K : PySem.W.Frag) : Sp := spG (fun x : Addr × List Nat => [.ref x.1]) fun x H Q => SqT K H x.1 (vns x.2) ∧ (∀ q ∈ x.2, q ≤ 100000) ∧ x.2.length ≤ 1000 ∧ ∀ H', Same H H' → Q (vn (wat x.2)) H'
abbrev pows (l : List Nat) : List Int := l.map fun q => ((2 ^ q : Nat) : Int)
theorem pows_of {l : List Nat} {ys : List V} (h : ys.length = (vns l).length) (f : ∀ (i : Nat) (y : V), ys[i]? = some y → ∃ q : Nat, l[i]? = some q ∧ y = vn (2 ^ q)) : ys = (l.map fun q => ((2 ^ q : Nat) : Int)).map V.int := by
  refine List.ext_getElem? fun i => ?_
  rw [List.getElem?_map, List.getElem?_map]
  rcases Nat.lt_or_ge i ys.length with hi | hi
  · obtain ⟨q, h1, h2⟩ := f i _ (List.getElem?_eq_getElem hi)
    rw [List.getElem?_eq_getElem hi, h1, h2]
    rfl
  · rw [List.getElem?_eq_none hi, List.getElem?_eq_none (by rw [List.length_map] at h; omega)]
    rfl
theorem sum_pows (l : List Nat) : (l.map fun q => ((2 ^ q : Nat) : Int)).sum = ((wat l : Nat) : Int) := by
  unfold wat
  rw [← sum_vn, List.map_map]
  rfl
theorem vns_get {l : List Nat} {i : Nat} {x : V} (h : (vns l)[i]? = some x) : ∃ q : Nat, l[i]? = some q ∧ x = vn q := by
  rw [List.getElem?_map] at h
  cases e : l[i]? with
  | none => rw [e] at h; cases h
  | some q => rw [e] at h; exact ⟨q, rfl, (Option.some.inj h).symm⟩
theorem dn_word_at_L (T : Txt K mg) : Dn P w K mg base "word_at" 1 ["some"] (spWordAtL K) := by
  refine dnG (N := ["some", "place"]) T.d_word_at sc_word_at (fun f fd F => FunD.bindsN (ps := ["some"]) F fun _ _ _ _ _ _ us hl => match us, hl with | [_], _ => rfl) (fun _ => rfl) (fun f cdv A outer s H a Q E hr h => ?_)
  obtain ⟨hS, hq, hl, q⟩ := h
  refine ⟨_, pss_one (ps_ret (pe_callB (cr_sum rfl) (by rfl) T.n_sum (by decide +kernel) (pa_cons (pe_lc (own := [("place", 1)]) (by rfl) sc_word_at.nd (pi_list (pv 0)) (blkOk_by (N := ["some", "place"]) (sc := defScope s_word_at) (by decide +kernel)) (fun _ _ _ _ _ => pg_name (i := 1) sc_word_at.nd rfl (.inl rfl)) (fun _ _ _ _ _ => pts_nil) (fun _ _ _ _ _ => pe_op shlN pe_int (pv 1))) pa_nil))), ?_⟩
  refine ⟨_, rfl, a.1, rfl, ⟨_, hS⟩, fun D nD => lcL hS (fun _ i y => ∃ q : Nat, a.2[i]? = some q ∧ y = vn (2 ^ q)) nD (by rw [List.length_map]; omega) (fun _ _ _ _ _ z => z) (fun i H1 x Qy hx sm k => ?_) (fun H1 ys sm hlen hR hD => ?_) (gName_mono 1)⟩
  · obtain ⟨p, e1, rfl⟩ := vns_get hx
    refine ⟨rfl, _, rfl, 1, p, rfl, rfl, ⟨by decide, by have := hq p (List.mem_of_getElem? e1); omega⟩, ?_⟩
    exact k _ _ (Same.refl _) ⟨p, e1, congrArg vn (shl_one p)⟩
  · refine ⟨D, pows a.2, rfl, ?_, ?_⟩
    · rw [← pows_of hlen hR]
      exact SqL.of hD
    · rw [sum_pows]
      exact q _ sm
theorem dn_word_at_T (T : Txt K mg) : Dn P w K mg base "word_at" 1 ["some"] (spWordAtT K) := by
  refine dnG (N := ["some", "place"]) T.d_word_at sc_word_at (fun f fd F => FunD.bindsN (ps := ["some"]) F fun _ _ _ _ _ _ us hl => match us, hl with | [_], _ => rfl) (fun _ => rfl) (fun f cdv A outer s H a Q E hr h => ?_)
  obtain ⟨hS, hq, hl, q⟩ := h
  refine ⟨_, pss_one (ps_ret (pe_callB (cr_sum rfl) (by rfl) T.n_sum (by decide +kernel) (pa_cons (pe_lc (own := [("place", 1)]) (by rfl) sc_word_at.nd (pi_tup (pv 0)) (blkOk_by (N := ["some", "place"]) (sc := defScope s_word_at) (by decide +kernel)) (fun _ _ _ _ _ => pg_name (i := 1) sc_word_at.nd rfl (.inl rfl)) (fun _ _ _ _ _ => pts_nil) (fun _ _ _ _ _ => pe_op shlN pe_int (pv 1))) pa_nil))), ?_⟩
  refine ⟨_, rfl, a.1, rfl, ⟨_, hS⟩, fun D nD => lcT hS (fun _ i y => ∃ q : Nat, a.2[i]? = some q ∧ y = vn (2 ^ q)) nD (by rw [List.length_map]; omega) (fun _ _ _ _ _ z => z) (fun i H1 x Qy hx sm k => ?_) (fun H1 ys sm hlen hR hD => ?_) (gName_mono 1)⟩
  · obtain ⟨p, e1, rfl⟩ := vns_get hx
    refine ⟨rfl, _, rfl, 1, p, rfl, rfl, ⟨by decide, by have := hq p (List.mem_of_getElem? e1); omega⟩, ?_⟩
    exact k _ _ (Same.refl _) ⟨p, e1, congrArg vn (shl_one p)⟩
  · refine ⟨D, pows a.2, rfl, ?_, ?_⟩
    · rw [← pows_of hlen hR]
      exact SqL.of hD
    · rw [sum_pows]
      exact q _ sm
end
end YN
set_option Elab.async false
set_option linter.all false
set_option maxRecDepth 100000
set_option maxHeartbeats 4000000
namespace YN
open PySem PySem.Spec PyProof.Rows L2
theorem sc_word_without : FnScope ["many", "letter", "run", "place"] ["many", "letter"] (defScope s_word_without) := ⟨rfl, rfl, rfl, by decide +kernel, rfl, by decide +kernel, by decide +kernel⟩
theorem sc_step_by : FnScope ["many", "word", "letter"] ["many", "word", "letter"] (defScope s_step_by) := ⟨rfl, rfl, rfl, by decide +kernel, rfl, by decide +kernel, by decide +kernel⟩
theorem sc_steps : FnScope ["many", "word", "found", "letter"] ["many", "word"] (defScope s_steps) := ⟨rfl, rfl, rfl, by decide +kernel, rfl, by decide +kernel, by decide +kernel⟩
theorem sc_shows_steps : FnScope ["many", "word", "thing", "one", "letter"] ["many", "word", "thing"] (defScope s_shows_steps) := ⟨rfl, rfl, rfl, by decide +kernel, rfl, by decide +kernel, by decide +kernel⟩
def rgOk (m l : Nat) : Bool := decide (((2 <<< l : Nat) : Int) ≠ 0) && decide (((2 <<< l : Nat) : Int).natAbs < 1073741824) && Builtin.Range.small 0 ((1 <<< m : Nat) : Int) ((2 <<< l : Nat) : Int) && decide (Builtin.Range.rangeSize 0 ((1 <<< m : Nat) : Int) ((2 <<< l : Nat) : Int) = ((2 ^ (m - l - 1) : Nat) : Int))
theorem rg_all : ((List.range 7).all fun m => (List.range m).all fun l => rgOk m l) = true := by decide +kernel
theorem rg_ok {m l : Nat} (hm : m ≤ 6) (hl : l < m) : RgC 0 ((1 <<< m : Nat) : Int) ((2 <<< l : Nat) : Int) (2 ^ (m - l - 1)) := by
  have h := List.all_eq_true.mp rg_all m (List.mem_range.mpr (by omega))
  have h := List.all_eq_true.mp h l (List.mem_range.mpr hl)
  unfold rgOk at h
  simp only [Bool.and_eq_true, decide_eq_true_eq] at h
  exact ⟨h.1.1.1, h.1.1.2, h.1.2, h.2⟩
section
variable {P : Program} {w : World} {K : PySem.W.Frag} {mg : Str → Option Value} {base : Heap}
def spWithout : Sp := spG (fun a : Nat × Nat => [vn a.1, vn a.2]) fun a H Q => a.1 ≤ 6 ∧ a.2 < a.1 ∧ ∀ H', Same H H' → Q (vn (wo a.1 a.2)) H'
theorem dn_word_without (T : Txt K mg) : Dn P w K mg base "word_without" 1 ["many", "letter"] spWithout := by
  refine dnG (N := ["many", "letter", "run", "place"]) T.d_word_without sc_word_without (fun f fd F => FunD.bindsN (ps := ["many", "letter"]) F fun _ _ _ _ _ _ us hl => match us, hl with | [_, _], _ => rfl) (fun _ => rfl) (fun f cdv A outer s H a Q E hr h => ?_)
  obtain ⟨m, l⟩ := a
  obtain ⟨hm, hl, q⟩ := h
  refine ⟨_, pss_cons (ps_set (i := 2) sc_word_without.nd rfl (.inr rfl) (pe_op subN (pe_op shlN pe_int (pe_op shlN pe_int (pv 1))) pe_int))
    (pss_one (ps_ret (pe_callB (cr_sum rfl) (by rfl) T.n_sum (by decide +kernel) (pa_cons (pe_lc (own := [("place", 3)]) (by rfl) sc_word_without.nd (pi_range3 (by rfl) T.n_range (pa_cons pe_int (pa_cons (pe_op shlN pe_int (pv 0)) (pa_cons (pe_op shlN pe_int (pv 1)) pa_nil)))) (blkOk_by (N := ["many", "letter", "run", "place"]) (sc := defScope s_word_without) (by decide +kernel)) (fun _ _ _ _ _ => pg_name (i := 3) sc_word_without.nd rfl (.inl rfl)) (fun _ _ _ _ _ => pts_nil) (fun _ _ _ _ _ => pe_op shlN (pv 2) (pv 3))) pa_nil)))), ?_⟩
  have hm : m ≤ 6 := hm
  have hl : l < m := hl
  have p5 : 2 ^ l ≤ 32 := Nat.pow_le_pow_right (n := 2) (by decide) (show l ≤ 5 by omega)
  have p6 : 2 ^ 2 ^ l ≤ 2 ^ 32 := Nat.pow_le_pow_right (by decide) p5
  have p7 : 1 ≤ 2 ^ 2 ^ l := Nat.one_le_two_pow
  refine ⟨_, rfl, 1, l, rfl, rfl, ⟨by decide, by omega⟩, 1, 1 <<< l, rfl, rfl, ⟨by decide, by rw [shl_one]; omega⟩, 1 <<< (1 <<< l), 1, rfl, rfl, by rw [shl_one, shl_one]; exact p7, ?_⟩
  refine ⟨_, rfl, 1, m, rfl, rfl, ⟨by decide, by omega⟩, _, rfl, 2, l, rfl, rfl, ⟨by decide, by omega⟩, 0, _, _, _, rfl, rg_ok hm hl, fun D nD => ?_⟩
  refine lcCN (fun _ i y => y = vn ((2 ^ 2 ^ l - 1) * 2 ^ (i * 2 ^ (l + 1)))) nD ?_ (fun _ _ _ _ _ z => z) (fun i H1 Qy hi sm k => ?_) (fun H1 ys sm hlen hR hD => ?_) (gName_mono 3)
  · have := Nat.pow_le_pow_right (n := 2) (by decide) (show m - l - 1 ≤ 6 by omega)
    omega
  · have e2 : 2 <<< l = 2 ^ (l + 1) := by rw [Nat.shiftLeft_eq, Nat.pow_succ, Nat.mul_comm]
    have e3 : 2 ^ (m - l - 1) * 2 ^ (l + 1) = 2 ^ m := by
      rw [← Nat.pow_add]
      congr 1
      omega
    have e4 : i * 2 ^ (l + 1) ≤ 2 ^ m := by
      rw [← e3]
      exact Nat.mul_le_mul_right _ (Nat.le_of_lt hi)
    have e5 := pow_le64 hm
    refine ⟨rfl, _, rfl, _, rfl, _, _, rfl, rfl, ⟨?_, ?_⟩, ?_⟩
    · rw [shl_one, shl_one]
      omega
    · rw [e2]
      omega
    · refine k _ _ (Same.refl _) ?_
      dsimp only
      rw [e2, shl_one, shl_one, Nat.shiftLeft_eq]
  · have e := vals_are hlen hR
    subst e
    rw [vns_int] at hD
    refine ⟨D, _, rfl, SqL.of hD, ?_⟩
    rw [sum_vn]
    exact q _ sm
def spStepBy : Sp := spG (fun a : Nat × Nat × Nat => [vn a.1, vn a.2.1, vn a.2.2]) fun a H Q => a.1 ≤ 6 ∧ a.2.2 < a.1 ∧ a.2.1 < 2 ^ 2 ^ a.1 ∧ ∀ H', Same H H' → Q (vn (stepBy a.1 a.2.1 a.2.2)) H'
theorem dn_step_by (T : Txt K mg) : Dn P w K mg base "step_by" 2 ["many", "word", "letter"] spStepBy := by
  refine dnG (N := ["many", "word", "letter"]) T.d_step_by sc_step_by (fun f fd F => FunD.bindsN (ps := ["many", "word", "letter"]) F fun _ _ _ _ _ _ us hl => match us, hl with | [_, _, _], _ => rfl) (fun _ => rfl) (fun f cdv A outer s H a Q E hr h => ?_)
  obtain ⟨m, n, l⟩ := a
  obtain ⟨hm, hl, hw, q⟩ := h
  refine ⟨_, pss_one (ps_ret (pe_dn (dn_plus T) hr (by rfl) (pa_cons (pv 1) (pa_cons (pe_op shlN (pe_dn (dn_times T) hr (by rfl) (pa_cons (pv 1) (pa_cons (pe_dn (dn_word_without T) hr (by rfl) (pa_cons (pv 0) (pa_cons (pv 2) pa_nil))) pa_nil))) (pe_op shlN pe_int (pv 2))) pa_nil)))), ?_⟩
  have hm : m ≤ 6 := hm
  have hl : l < m := hl
  have hw : n < 2 ^ 2 ^ m := hw
  have p5 : 2 ^ l ≤ 32 := Nat.pow_le_pow_right (n := 2) (by decide) (show l ≤ 5 by omega)
  refine ⟨_, rfl, _, rfl, _, rfl, _, rfl, (m, l), rfl, hm, hl, fun H1 s1 => ⟨(n, wo m l), rfl, ?_⟩⟩
  refine ⟨_, rfl, 1, l, rfl, rfl, ⟨by decide, by omega⟩, _, _, rfl, rfl, ⟨?_, by rw [shl_one]; omega⟩, (n, (n &&& wo m l) <<< (1 <<< l)), rfl, ?_⟩
  · exact Nat.lt_of_le_of_lt Nat.and_le_left (two64 hm hw)
  · show Q (vn (n ^^^ ((n &&& wo m l) <<< (1 <<< l)))) H1
    rw [shl_one]
    exact q H1 s1
/-- steps: the tuple of the words on the way -/
def spSteps : Sp := spG (fun a : Nat × Nat => [vn a.1, vn a.2]) fun a H Q => a.1 ≤ 6 ∧ a.2 < 2 ^ 2 ^ a.1 ∧ ∀ H' p, Same H H' → H' p = some (.tup (vns (stepsL a.1 a.2))) → Q (.ref p) H'
theorem vns_last (f : Nat → Nat) (i : Nat) : atI (vns ((List.range (i + 1)).map f)) (-1) = some (vn (f i)) := by
  rw [List.range_succ, List.map_append, vns_app]
  exact atI_last _ _
theorem dn_steps (T : Txt K mg) : Dn P w K mg base "steps" 3 ["many", "word"] spSteps := by
  refine dnG (N := ["many", "word", "found", "letter"]) T.d_steps sc_steps (fun f fd F => FunD.bindsN (ps := ["many", "word"]) F fun _ _ _ _ _ _ us hl => match us, hl with | [_, _], _ => rfl) (fun _ => rfl) (fun f cdv A outer s H a Q E hr h => ?_)
  obtain ⟨m, n⟩ := a
  obtain ⟨hm, hw, q⟩ := h
  refine ⟨_, pss_cons (ps_set (i := 2) sc_steps.nd rfl (.inl rfl) (pe_lst (pa_cons (pv 1) pa_nil)))
    (pss_cons (ps_for PassesOwn.never rfl (pi_range1 (by rfl) T.n_range (pa_cons (pv 0) pa_nil)) (pg_name (i := 3) sc_steps.nd rfl (.inl rfl))
      (pss_one (ps_expr (pe_bm PySem.F.plainAttrs_list PySem.F.slot_list_append PySem.F.type_list_append mt_append (pv 2) (pa_cons (pe_dn (dn_step_by T) hr (by rfl) (pa_cons (pv 0) (pa_cons (pe_ix ix_list (pv 2) (pe_un un_neg pe_int) (fun _ _ => rfl)) (pa_cons (pv 3) pa_nil)))) pa_nil)))))
    (pss_one (ps_ret (pe_callTy call_tuple_of (by rfl) T.n_tuple (by decide +kernel) (pa_cons (pv 2) pa_nil))))), ?_⟩
  have hm : m ≤ 6 := hm
  have hw : n < 2 ^ 2 ^ m := hw
  refine ⟨_, rfl, szl (Nat.le_of_ble_eq_true rfl), fun o no => ?_⟩
  refine ⟨_, rfl, m, rfl, by omega, by omega, forN (fun i σ H3 => ∃ y3, σ = [some (vn m), some (vn n), some (.ref o), y3] ∧ Same H H3 ∧ H3 o = some (.lst (vns ((List.range (i + 1)).map (Zk m n)))))
    ⟨none, rfl, same_new no, upd_same⟩ ?_ ?_⟩
  · rintro i σ H3 hi ⟨y3, rfl, sm, ho⟩
    refine ⟨_, rfl, .inl ⟨rfl, _, SqL.of ho⟩, _, rfl, _, rfl, 1, rfl, o, _, _, _, rfl, rfl, SqL.of ho, vns_last _ i, _, rfl, (m, Zk m n i, i), rfl, hm, hi, Zk_lt hm hw i (by omega), fun H4 s4 => ?_⟩
    have ho4 := s4 _ _ ho
    refine ⟨o, _, _, rfl, rfl, ho4, ?_, ?_⟩
    · refine szlt ?_
      simp
      omega
    · refine ⟨_, rfl, same_mut (Same.trans sm s4) no, ?_⟩
      rw [upd_same, List.range_succ (n := i + 1), List.map_append, vns_app]
      rfl
  · rintro σ H3 ⟨y3, rfl, sm, ho⟩
    refine ⟨_, rfl, o, _, rfl, .inl ⟨SqL.of ho, fun p np => ?_⟩⟩
    exact q _ p (Same.trans sm (same_new np)) upd_same
/-- shows_steps of the steps themselves -/
def spShows : Sp := spG (fun a : Nat × Nat × Addr => [vn a.1, vn a.2.1, .ref a.2.2]) fun a H Q => a.1 ≤ 6 ∧ a.2.1 < 2 ^ 2 ^ a.1 ∧ H a.2.2 = some (.tup (vns (stepsL a.1 a.2.1))) ∧ ∀ H', Same H H' → Q (.bl true) H'
theorem stepsL_get {m n i : Nat} (hi : i ≤ m) : (vns (stepsL m n))[i]? = some (vn (Zk m n i)) := by
  unfold stepsL
  rw [List.getElem?_map, List.getElem?_map, List.getElem?_range (by omega)]
  rfl
theorem stepsL_len {m n : Nat} : (vns (stepsL m n)).length = m + 1 := by
  unfold stepsL
  simp
theorem dn_shows_steps (T : Txt K mg) : Dn P w K mg base "shows_steps" 3 ["many", "word", "thing"] spShows := by
  refine dnG (N := ["many", "word", "thing", "one", "letter"]) T.d_shows_steps sc_shows_steps (fun f fd F => FunD.bindsN (ps := ["many", "word", "thing"]) F fun _ _ _ _ _ _ us hl => match us, hl with | [_, _, _], _ => rfl) (fun _ => rfl) (fun f cdv A outer s H a Q E hr h => ?_)
  obtain ⟨m, n, b⟩ := a
  obtain ⟨hm, hw, hb, q⟩ := h
  refine ⟨_, pss_cons (ps_if (PW.pt (pw_or (pt_not (pt_val (pe_callB call_isi (by rfl) T.n_isinstance (by decide +kernel) (pa_cons (pv 2) (pa_cons (pe_bltn (v := .ty "tuple") (by rfl) T.n_tuple (by decide +kernel) rfl) pa_nil)))))
      (pw_or (pt_cmpR neN (pe_callB call_len_seq (by rfl) T.n_len (by decide +kernel) (pa_cons (pv 2) pa_nil)) (pe_op addN (pv 0) pe_int) (nomark _))
      (pw_or1 (pt_not (pt_val (pe_callB (cr_all rfl) (by rfl) T.n_all (by decide +kernel) (pa_cons (pe_lc (own := [("one", 3)]) (by rfl) sc_shows_steps.nd (pi_tup (pv 2)) (blkOk_by (N := ["many", "word", "thing", "one", "letter"]) (sc := defScope s_shows_steps) (by decide +kernel)) (fun _ _ _ _ _ => pg_name (i := 3) sc_shows_steps.nd rfl (.inl rfl)) (fun _ _ _ _ _ => pts_nil)
        (fun _ _ _ _ _ => pe_dn (dn_is_word T) hr (by rfl) (pa_cons (pv 0) (pa_cons (pv 3) pa_nil)))) pa_nil))))))))
      (pss_one (ps_ret pe_bl)) pss_nil)
    (pss_cons (ps_if (pt_cmpR neN (pe_ix ix_tup (pv 2) pe_int (fun _ _ => rfl)) (pv 1) (nomark _)) (pss_one (ps_ret pe_bl)) pss_nil)
    (pss_one (ps_ret (pe_callB (cr_all rfl) (by rfl) T.n_all (by decide +kernel) (pa_cons (pe_lc (own := [("letter", 4)]) (by rfl) sc_shows_steps.nd (pi_range1 (by rfl) T.n_range (pa_cons (pv 0) pa_nil)) (blkOk_by (N := ["many", "word", "thing", "one", "letter"]) (sc := defScope s_shows_steps) (by decide +kernel)) (fun _ _ _ _ _ => pg_name (i := 4) sc_shows_steps.nd rfl (.inl rfl)) (fun _ _ _ _ _ => pts_nil)
        (fun _ _ _ _ _ => pe_cmpR eqN (pe_dn (dn_step_by T) hr (by rfl) (pa_cons (pv 0) (pa_cons (pe_ix (ix_tupK (K := K) rfl) (pv 2) (pv 4) (fun _ _ => rfl)) (pa_cons (pv 4) pa_nil)))) (pe_ix (ix_tupK (K := K) rfl) (pv 2) (pe_op addN (pv 4) pe_int) (fun _ _ => rfl)) (nomark _))) pa_nil))))), ?_⟩
  have hm : m ≤ 6 := hm
  have hw : n < 2 ^ 2 ^ m := hw
  have hb : H b = some (.tup (vns (stepsL m n))) := hb
  refine ⟨_, rfl, _, _, _, _, true, rfl, .ty "tuple", .base (.tup hb), kit_ty (by decide +kernel), true, rfl, iteF ?_⟩
  refine ⟨_, rfl, b, _, rfl, .inr (SqT.of hb), _, rfl, m, 1, rfl, rfl, _, _, rfl, rfl, false, ?_, iteF ?_⟩
  · rw [stepsL_len]
    exact neq_same _
  refine ⟨_, rfl, b, rfl, ⟨_, SqT.of hb⟩, fun D nD => lcT (SqT.of hb) (fun _ _ y => y = .bl true) nD (by rw [stepsL_len]; omega) (fun _ _ _ _ _ z => z) (fun i H1 x Qy hx sm k => ?_) (fun H1 ys sm hlen hR hD => ?_) (gName_mono 3)⟩
  · have hi : i ≤ m := by
      have := (List.getElem?_eq_some_iff.mp hx).1
      rw [stepsL_len] at this
      omega
    rw [stepsL_get hi] at hx
    obtain rfl : vn (Zk m n i) = x := Option.some.inj hx
    exact ⟨rfl, _, rfl, _, rfl, (m, Zk m n i), rfl, hm, Zk_lt hm hw i hi, k _ _ (Same.refl _) rfl⟩
  have e := trues_are hlen hR
  subst e
  refine ⟨D, _, rfl, SqL.of hD, true, congrArg V.bl (all_trues _), iteF ?_⟩
  have hb1 := sm _ _ hb
  refine ⟨_, rfl, b, _, 0, _, rfl, rfl, SqT.of hb1, atI_nat (j := 0) (stepsL_get (Nat.zero_le m)), _, rfl, n, n, rfl, rfl, false, ?_, iteF ?_⟩
  · exact neq_same _
  refine ⟨_, rfl, m, rfl, by omega, by omega, fun D2 nD2 => lcRN (fun _ _ y => y = .bl true) nD2 (by simp; omega) (fun _ _ _ _ _ z => z) (fun i H2 Qy hi sm2 k => ?_) (fun H2 ys2 sm2 hlen2 hR2 hD2 => ?_) (gName_mono 4)⟩
  · have hi : i < m := hi
    have hb2 := sm2 _ _ hb1
    refine ⟨rfl, _, rfl, _, rfl, _, rfl, b, _, (i : Int), _, rfl, rfl, SqT.of hb2, atI_nat (stepsL_get (Nat.le_of_lt hi)), _, rfl, (m, Zk m n i, i), rfl, hm, hi, Zk_lt hm hw i (by omega), fun H3 s3 => ?_⟩
    refine ⟨_, rfl, _, rfl, i, 1, rfl, rfl, b, _, ((i + 1 : Nat) : Int), _, rfl, rfl, SqT.of (s3 _ _ hb2), atI_nat (stepsL_get hi), _, _, rfl, rfl, k _ _ s3 ?_⟩
    exact congrArg V.bl (decide_eq_true rfl)
  · have e2 := trues_are hlen2 hR2
    subst e2
    refine ⟨D2, _, rfl, SqL.of hD2, ?_⟩
    rw [all_trues]
    exact q _ (Same.trans sm sm2)
end
end YN
set_option Elab.async false
set_option linter.all false
set_option maxRecDepth 100000
set_option maxHeartbeats 4000000
/-! max(xs, default=d), xs a list of whole numbers, perhaps empty -/
namespace YN
open PySem PySem.Spec PyProof.Rows L2
/-- what the loop holds: nothing, or the best so far -/
def heldD (b : Option Value) : Array Value := match b with
  | none => #[]
  | some v => #[v, v]
def bestD (P : Nat → Value → Prop) (bt : Nat → Nat → Bool) (j : Nat) (b : Option Value) : Prop := match b with
  | none => j = 0
  | some v => ∃ i, j = i + 1 ∧ P (argBest bt i) v
section
variable {prog : Program} {w : World} {A : Around} {R : Result → Shared → Prop} {I : Addr} {fp wr : List Addr} {n : Nat} {P : Nat → Value → Prop} {St : Nat → Heap → Prop}
theorem maxD_loop (W : Walks prog w A.in1 I fp wr n P St) (bt : Nat → Nat → Bool) (hc : CmpOf prog w A.in1 .Gt P bt) (S : Addr) (nS : S ∉ fp) (d : Value) : ∀ (k j : Nat) (s : Shared) (b : Option Value) (c : Nat),
    j + k = n → St j s.heap → bestD P bt j b → s.heap.get? S = some { cls := .type "list", dict := none, data := .seq (heldD b) c, slots := #[] } →
    (∀ v h' tk, (n = 0 → v = d) → (∀ i, n = i + 1 → P (argBest bt i) v) → (∀ x o, x ∉ wr → x ≠ S → s.heap.get? x = some o → h'.get? x = some o) → R (.ok (.ret v)) { s with heap := h', toks := tk }) →
    codeAny (model prog w) A (.builtin "max.loop" ⟨[.ref I, .none, .ref S], [(Str.ofString "default", d)]⟩) R s := by
  have nw : S ∉ wr := fun z => nS (W.sub _ z)
  have nm : (toString "max" ++ toString ".loop" : String) = "max.loop" := by decide
  intro k
  induction k with
  | zero =>
    intro j s b c hk st hb hS q
    have e : j = n := by omega
    refine codeAny_builtin PySem.F.entry_max_loop ?_
    rw [Around.under_plainId PySem.F.plain_max_loop _]
    show wpAny _ A.in1 (seqItems? (.ref S) >>= _) _ _ s
    refine wpAny_bind (wpAny_seqItems hS rfl ?_)
    cases b with
    | none =>
      have z : n = 0 := by rw [← e]; exact hb
      show wpAny _ A.in1 (tryCatch (pyNext (.ref I)) _ >>= _) _ _ s
      refine wpAny_bind (wpAny_tryCatch (W.done s _ _ (e ▸ st) fun h' tk k' => ?_))
      show wpAny _ A.in1 (rule _ >>= _) _ _ _
      refine wpAny_bind (wpAny_rule (wpAny_pure ?_))
      exact q d h' tk (fun _ => rfl) (fun i z2 => by omega) fun x o h1 _ h3 => k' x o h1 h3
    | some v =>
      obtain ⟨i, e2, hP⟩ := hb
      show wpAny _ A.in1 (tryCatch (pyNext (.ref I)) _ >>= _) _ _ s
      refine wpAny_bind (wpAny_tryCatch (W.done s _ _ (e ▸ st) fun h' tk k' => ?_))
      have hS' : h'.get? S = some { cls := .type "list", dict := none, data := .seq #[v, v] c, slots := #[] } := k' S _ nw hS
      show wpAny _ A.in1 (updateSeq S (fun _ => #[]) >>= _) _ _ _
      refine wpAny_bind (wpAny_updateSeq hS' rfl (wpAny_bind (wpAny_letGo (wpAny_pure ?_))))
      refine q v _ tk (fun z => by omega) (fun i' z => by rw [show i' = i by omega]; exact hP) fun x o h1 h2 h3 => ?_
      exact (Heap.get?_update_other _ _ (Ne.symm h2)).trans (k' x o h1 h3)
  | succ k ih =>
    intro j s b c hk st hb hS q
    have hlt : j < n := by omega
    refine codeAny_builtin PySem.F.entry_max_loop ?_
    rw [Around.under_plainId PySem.F.plain_max_loop _]
    show wpAny _ A.in1 (seqItems? (.ref S) >>= _) _ _ s
    refine wpAny_bind (wpAny_seqItems hS rfl ?_)
    cases b with
    | none =>
      have z : j = 0 := hb
      show wpAny _ A.in1 (tryCatch (pyNext (.ref I)) _ >>= _) _ _ s
      refine wpAny_bind (wpAny_tryCatch (W.item j s _ _ hlt st fun v h' tk hP st' k' => ?_))
      have hS' := k' S _ nw hS
      show wpAny _ A.in1 (updateSeq S (fun _ => #[v, v]) >>= _) _ _ _
      refine wpAny_bind (wpAny_updateSeq hS' rfl ?_)
      rw [nm]
      refine wpAny_pure ⟨plainId_quiet PySem.F.plain_max_loop _, ih (j + 1) _ (some v) _ (by omega) (W.frame _ _ _ st' fun x hx o e => ?_) ⟨0, by omega, by subst z; exact hP⟩ (Heap.get?_update_self _ hS' rfl) fun v' h'' tk'' q1 q2 k'' => ?_⟩
      · exact (Heap.get?_update_other _ _ (fun z : S = x => nS (by rw [z]; exact hx))).trans e
      · exact q v' h'' tk'' q1 q2 fun x o h1 h2 h3 => k'' x o h1 h2 ((Heap.get?_update_other _ _ (Ne.symm h2)).trans (k' x o h1 h3))
    | some vb =>
      obtain ⟨i, rfl, hPb⟩ := hb
      show wpAny _ A.in1 (tryCatch (pyNext (.ref I)) _ >>= _) _ _ s
      refine wpAny_bind (wpAny_tryCatch (W.item (i + 1) s _ _ hlt st fun v h' tk hP st' k' => ?_))
      have hS' : h'.get? S = some { cls := .type "list", dict := none, data := .seq #[vb, vb] c, slots := #[] } := k' S _ nw hS
      show wpAny _ A.in1 (tryCatch (holding [v, v] (richCompare .Gt v vb >>= _)) _ >>= _) _ _ _
      refine wpAny_bind (wpAny_tryCatch (wpAny_holding (wpAny_bind (hc (i + 1) (argBest bt i) v vb _ _ _ hP hPb ?_))))
      refine wpAny_bind (wpAny_holding (wpAny_truthy_bool (wpAny_bind (wpAny_letGo (wpAny_pure ?_)))))
      cases hbt : bt (i + 1) (argBest bt i) with
      | true =>
        simp only [if_true]
        refine wpAny_bind (wpAny_updateSeq hS' rfl (wpAny_bind (wpAny_letGo ?_)))
        rw [nm]
        refine wpAny_pure ⟨plainId_quiet PySem.F.plain_max_loop _, ih (i + 1 + 1) _ (some v) _ (by omega) (W.frame _ _ _ st' fun x hx o e => ?_) ⟨i + 1, rfl, by simp only [argBest, hbt, if_true]; exact hP⟩ (Heap.get?_update_self _ hS' rfl) fun v' h'' tk'' q1 q2 k'' => ?_⟩
        · exact (Heap.get?_update_other _ _ (fun z : S = x => nS (by rw [z]; exact hx))).trans e
        · exact q v' h'' tk'' q1 q2 fun x o h1 h2 h3 => k'' x o h1 h2 ((Heap.get?_update_other _ _ (Ne.symm h2)).trans (k' x o h1 h3))
      | false =>
        simp only [Bool.false_eq_true, if_false]
        refine wpAny_bind (wpAny_letGo ?_)
        rw [nm]
        refine wpAny_pure ⟨plainId_quiet PySem.F.plain_max_loop _, ih (i + 1 + 1) _ (some vb) c (by omega) st' ⟨i + 1, rfl, by simp only [argBest, hbt, Bool.false_eq_true, if_false]; exact hPb⟩ hS' fun v' h'' tk'' q1 q2 k'' => ?_⟩
        exact q v' h'' tk'' q1 q2 fun x o h1 h2 h3 => k'' x o h1 h2 (k' x o h1 h3)
end
theorem maxD_args (a d : Value) : argsOk "max" ⟨[a], [(Str.ofString "default", d)]⟩ := by unfold argsOk; kernel_rfl
section
variable {prog : Program} {w : World} {A : Around} {E : Value → Shared → Prop} {s : Shared}
theorem maxD_call {x d : Value} {Q : Value → Shared → Prop}
    (h : wpAny (model prog w) A.in1 (pyIter x) (fun it s₂ => ∃ I fp wr n P St bt, it = .ref I ∧ Walks prog w A.in1 I fp wr n P St ∧ St 0 s₂.heap ∧ (∀ b ∈ fp, b < s₂.heap.objs.size) ∧ CmpOf prog w A.in1 .Gt P bt ∧
      ∀ v h' tk, (n = 0 → v = d) → (∀ i, n = i + 1 → P (argBest bt i) v) → (∀ b o, b ∉ wr → s₂.heap.get? b = some o → h'.get? b = some o) → Q v { s₂ with heap := h', toks := tk }) E s) :
    wpAny (model prog w) A (call (.builtin "max") [x] [(Str.ofString "default", d)]) Q E s := by
  have nm : (toString "max" ++ toString ".loop" : String) = "max.loop" := by decide
  refine PyProof.Rows.kmk_tree PySem.F.kind_max PySem.F.plain_max PySem.F.entry_max (maxD_args _ _) ?_
  show wpAny _ A.in1 (Builtin.Builtins.bindParams "max" ["key", "default"] 0 ⟨[], [(Str.ofString "default", d)]⟩ >>= _) _ _ s
  refine wpAny_bind (wpAny_of_eq (show _ = pure [none, some d] from rfl) ?_)
  refine wpAny_bind (wpAny_pure ?_)
  refine wpAny_bind (wpAny_mono h (fun it s₂ h₂ => ?_) fun _ _ e => e)
  obtain ⟨I, fp, wr, n, P, St, bt, rfl, W, st, hfp, hc, q⟩ := h₂
  refine wpAny_bind (wpAny_newObj_type ?_)
  rw [nm]
  refine wpAny_pure ⟨plainId_quiet PySem.F.plain_max_loop _, maxD_loop W bt hc s₂.heap.objs.size (fun z => Nat.lt_irrefl _ (hfp _ z)) d n 0 _ none _ (by omega) (W.frame _ _ _ st fun b _ o e => Heap.get?_push_of_some _ e) rfl (Heap.get?_push_size _ rfl) fun v h' tk q1 q2 k => ?_⟩
  exact q v h' tk q1 q2 fun b o h1 h3 => k b o h1 (Nat.ne_of_lt (Heap.lt_size h3)) (Heap.get?_push_of_some _ h3)
end
def rMaxD (K : PySem.W.Frag) : List V → List V → Hp → VK → Prop := fun vs zs H Q => ∃ (a : Addr) (ns : List Int) (d : Int), vs = [.ref a] ∧ zs = [.int d] ∧ SqL K H a (ns.map V.int) ∧
  ∀ M : Int, (ns = [] → M = d) → (ns ≠ [] → M ∈ ns ∧ ∀ y ∈ ns, y ≤ M) → Q (.int M) H
theorem cr_maxD {X : Cx} (hcm : X.calm = true) : CallRK X (.builtin "max") [Str.ofString "default"] (rMaxD X.K) := by
  intro pins s σ H vs zs us ws Q I r rz h
  obtain ⟨a, ns, d, rfl, rfl, hs, q⟩ := h
  obtain rfl := Vals.ref1 r
  obtain ⟨w1, rfl, t1, rfl⟩ := vals1 rz
  obtain ⟨its, rv, hl, _⟩ := I.list hs
  have hi := rv.ints
  obtain ⟨xs, e⟩ := hi.allInts.items
  have hn : numsOf (intItems xs).toList = ns := by rw [← e]; exact hi.numsOf
  rw [nums_intItems] at hn
  subst hn
  have hl := hl.isList
  rw [e] at hl
  show wpAny _ _ (call (.builtin "max") [.ref a] [(Str.ofString "default", .int d t1)]) _ _ s
  refine maxD_call (PySem.iter_intList hl fun s₂ e st hfp hlI => ?_)
  subst e
  have W := Walks.list (prog := X.prog) (w := X.w) (A := X.A.in1) (I.ok.hd hcm) s.heap.objs.size a hlI (intItems xs)
  refine ⟨_, _, _, _, _, _, _, rfl, W, st, hfp, CmpOf.ints_gt (numAt xs) (fun _ _ => intItems_at), fun v h' tk q1 q2 hk => ?_⟩
  have kept := PySem.old_kept hk
  have esz : (intItems xs).size = xs.size := by simp [intItems]
  rcases Nat.eq_zero_or_pos xs.size with z | z
  · have hv := q1 (by rw [esz]; exact z)
    subst hv
    have e0 : xs.toList.map (·.1) = [] := by
      have : xs.toList.length = 0 := by rw [Array.length_toList]; exact z
      rw [List.eq_nil_of_length_eq_zero this]
      rfl
    exact ⟨.int d, H, I.kept kept, ⟨_, rfl⟩, q d (fun _ => rfl) fun z2 => absurd e0 z2⟩
  · have hv := q2 (xs.size - 1) (by rw [esz]; omega)
    obtain ⟨t, rfl⟩ := intItems_at hv
    obtain ⟨h1, h2⟩ := argBest_gt (numAt xs) (xs.size - 1)
    refine ⟨.int _, H, I.kept kept, ⟨_, rfl⟩, q _ (fun z2 => ?_) fun _ => ⟨?_, fun y hy => ?_⟩⟩
    · have := congrArg List.length z2
      rw [List.length_map, Array.length_toList, List.length_nil] at this
      omega
    · rw [numAt_eq]
      exact PySem.getD_mem (by rw [List.length_map, Array.length_toList]; omega)
    · obtain ⟨j, hj, rfl⟩ := mem_getD hy
      rw [List.length_map, Array.length_toList] at hj
      rw [← numAt_eq]
      exact h2 j (by omega)
end YN
set_option Elab.async false
set_option linter.all false
set_option maxRecDepth 100000
set_option maxHeartbeats 4000000
/-! terms and polynomials as data: order, equality -/
namespace YN
open PySem PySem.Spec PyProof.Rows L2
abbrev iD (n : Nat) : PyData := .int (n : Int)
def tD (t : List Nat) : PyData := .tuple (t.map iD)
def rkD (t : List Nat) : PyData := .tuple [iD t.length, tD t]
def pD (P : List (List Nat)) : PyData := .tuple (P.map tD)
theorem iDs (t : List Nat) : t.map iD = (t.map fun n : Nat => (n : Int)).map PyData.int := by
  rw [List.map_map]
  rfl
theorem eqv_int (a b : Nat) : PyData.eqv (iD a) (iD b) = decide (a = b) := by
  have h : PyData.eqv (iD a) (iD b) = ((a : Int) == (b : Int)) := by simp [PyData.eqv]
  rw [h]
  by_cases e : a = b
  · subst e; simp
  · rw [decide_eq_false e, beq_eq_false_iff_ne]
    exact fun z => e (Int.ofNat.inj z)
theorem eqvAll_ints : ∀ t u : List Nat, PyData.eqvAll (t.map iD) (u.map iD) = decide (t = u)
  | [], [] => by simp [PyData.eqvAll]
  | [], _ :: _ => by simp [PyData.eqvAll]
  | _ :: _, [] => by simp [PyData.eqvAll]
  | a :: t, b :: u => by
    rw [List.map_cons, List.map_cons, PyData.eqvAll, eqv_int, eqvAll_ints t u]
    simp
theorem eqv_tD (t u : List Nat) : PyData.eqv (tD t) (tD u) = decide (t = u) := by
  have h : PyData.eqv (tD t) (tD u) = PyData.eqvAll (t.map iD) (u.map iD) := by simp [PyData.eqv, tD]
  rw [h, eqvAll_ints]
theorem eqvAll_tD : ∀ P Q : List (List Nat), PyData.eqvAll (P.map tD) (Q.map tD) = decide (P = Q)
  | [], [] => by simp [PyData.eqvAll]
  | [], _ :: _ => by simp [PyData.eqvAll]
  | _ :: _, [] => by simp [PyData.eqvAll]
  | a :: t, b :: u => by
    rw [List.map_cons, List.map_cons, PyData.eqvAll, eqv_tD, eqvAll_tD t u]
    simp
theorem eqv_pD (P Q : List (List Nat)) : PyData.eqv (pD P) (pD Q) = decide (P = Q) := by
  have h : PyData.eqv (pD P) (pD Q) = PyData.eqvAll (P.map tD) (Q.map tD) := by simp [PyData.eqv, pD]
  rw [h, eqvAll_tD]
theorem alikeAll_iD (t u : List Nat) : PySem.W.alikeAll (t.map iD) (u.map iD) = true := by
  rw [iDs, iDs]
  exact PySem.W.alike_ints _ _
theorem alike_tD (t u : List Nat) : PySem.W.alike (tD t) (tD u) = true := by
  have h : PySem.W.alike (tD t) (tD u) = PySem.W.alikeAll (t.map iD) (u.map iD) := by simp [PySem.W.alike, tD]
  rw [h, alikeAll_iD]
theorem alike_rkD (t u : List Nat) : PySem.W.alike (rkD t) (rkD u) = true := by
  have h : PySem.W.alike (rkD t) (rkD u) = PySem.W.alike (tD t) (tD u) := by simp [PySem.W.alike, PySem.W.alikeAll, rkD]
  rw [h, alike_tD]
theorem lexN_lt : ∀ t u : List Nat, decide ((t.map fun n : Nat => (n : Int)) < (u.map fun n : Nat => (n : Int))) = lexN t u
  | [], [] => by simp [lexN]
  | [], _ :: _ => by simp [lexN]
  | _ :: _, [] => by simp [lexN]
  | a :: t, b :: u => by
    have ih := lexN_lt t u
    unfold lexN
    rw [← ih]
    have e : ((a :: t).map fun n : Nat => (n : Int)) < ((b :: u).map fun n : Nat => (n : Int)) ↔ a < b ∨ (a = b ∧ (t.map fun n : Nat => (n : Int)) < (u.map fun n : Nat => (n : Int))) := by
      rw [List.map_cons, List.map_cons, List.cons_lt_cons_iff]
      constructor
      · rintro (h | ⟨h1, h2⟩)
        · exact .inl (by omega)
        · exact .inr ⟨by omega, h2⟩
      · rintro (h | ⟨h1, h2⟩)
        · exact .inl (by omega)
        · exact .inr ⟨by omega, h2⟩
    by_cases h1 : a < b
    · rw [decide_eq_true (e.mpr (.inl h1)), decide_eq_true h1, Bool.true_or]
    · rw [decide_eq_false h1, Bool.false_or]
      by_cases h2 : a = b
      · subst h2
        rw [decide_eq_true rfl, Bool.true_and]
        exact decide_eq_decide.mpr (e.trans ⟨fun z => z.elim (fun q => absurd q h1) fun q => q.2, fun z => .inr ⟨rfl, z⟩⟩)
      · rw [decide_eq_false h2, Bool.false_and, decide_eq_false fun z => (e.mp z).elim h1 fun q => h2 q.1]
theorem dataLt_tD (t u : List Nat) : PySem.W.dataLt (tD t) (tD u) = lexN t u := by
  unfold tD
  rw [PySem.W.dataLt_tuple, ← lexN_lt, ← PySem.W.dataLt_ints, ← iDs, ← iDs]
  rfl
theorem dataLt_rkD (t u : List Nat) : PySem.W.dataLt (rkD t) (rkD u) = rlt t u := by
  unfold rkD
  rw [PySem.W.dataLt_pair (by simp [PySem.W.alike]) (alike_tD t u), eqv_int, eqv_tD, dataLt_tD, PySem.W.dataLt_int]
  unfold rlt
  by_cases h1 : t.length = u.length
  · rw [if_pos (decide_eq_true h1), decide_eq_false (show ¬ t.length < u.length by omega), Bool.false_or, decide_eq_true h1, Bool.true_and]
    by_cases h2 : t = u
    · subst h2
      rw [if_pos (decide_eq_true rfl), lexN_irr]
    · rw [if_neg (by simp [h2])]
  · rw [if_neg (by simp [h1]), decide_eq_false h1, Bool.false_and, Bool.or_false]
    exact decide_eq_decide.mpr ⟨fun z => by omega, fun z => by omega⟩
theorem depth_tD (t : List Nat) : (tD t).depth = 1 := by
  have h : (tD t).depth = PyData.depthAll (t.map iD) + 1 := by simp [PyData.depth, tD, Nat.add_comm]
  rw [h, iDs, PySem.W.depth_ints]
theorem depth_rkD (t : List Nat) : (rkD t).depth = 2 := by
  have h : (rkD t).depth = (tD t).depth + 1 := by simp [PyData.depth, PyData.depthAll, rkD, Nat.add_comm]
  rw [h, depth_tD]
theorem depthAll_tD : ∀ P : List (List Nat), PyData.depthAll (P.map tD) ≤ 1
  | [] => by simp [PyData.depthAll]
  | t :: P => by
    have h1 := depth_tD t
    have h2 := depthAll_tD P
    have e : PyData.depthAll ((t :: P).map tD) = max (tD t).depth (PyData.depthAll (P.map tD)) := by rw [List.map_cons]; simp [PyData.depthAll]
    omega
theorem depth_pD (P : List (List Nat)) : (pD P).depth ≤ 2 := by
  have h : (pD P).depth = PyData.depthAll (P.map tD) + 1 := by simp [PyData.depth, pD, Nat.add_comm]
  have := depthAll_tD P
  omega
theorem lay_iD : ∀ t : List Nat, PyData.canLayAll0 (t.map iD) = true
  | [] => by simp [PyData.canLayAll0]
  | a :: t => by rw [List.map_cons]; simp [PyData.canLayAll0, PyData.canLay0, lay_iD t]
theorem lay_tD (t : List Nat) : (tD t).canLay0 = true := by
  have h : (tD t).canLay0 = PyData.canLayAll0 (t.map iD) := by simp [PyData.canLay0, tD]
  rw [h, lay_iD]
theorem lay_tDs : ∀ P : List (List Nat), PyData.canLayAll0 (P.map tD) = true
  | [] => by simp [PyData.canLayAll0]
  | a :: t => by rw [List.map_cons]; simp [PyData.canLayAll0, lay_tD, lay_tDs t]
theorem shaped_pD (P : List (List Nat)) : SeqAt.shaped (pD P) = true := by
  have h : (pD P).canLay0 = PyData.canLayAll0 (P.map tD) := by simp [PyData.canLay0, pD]
  unfold SeqAt.shaped
  rw [h, lay_tDs, decide_eq_true (Nat.le_trans (depth_pD P) (by decide))]
  rfl
section
variable {K : PySem.W.Frag} {H : Hp}
theorem dpAll_iD : ∀ t : List Nat, DpAll K H (vns t) (t.map iD)
  | [] => .nil
  | a :: t => .cons (.int _) (dpAll_iD t)
theorem TmAt.dp {a : Addr} {t : List Nat} (h : TmAt H a t) : Dp K H (.ref a) (tD t) := .tup (SqT.of h) (dpAll_iD t)
theorem dpAll_tD : ∀ {bs : List Addr} {ts : List (List Nat)}, TmsAt H bs ts → DpAll K H (bs.map .ref) (ts.map tD)
  | _, _, .nil => .nil
  | _, _, .cons h r => .cons (TmAt.dp h) (dpAll_tD r)
theorem PoAt.dp {a : Addr} {P : List (List Nat)} (h : PoAt H a P) : Dp K H (.ref a) (pD P) := by
  obtain ⟨bs, e, h⟩ := h
  exact .tup (SqT.of e) (dpAll_tD h)
/-- a term with its length ahead -/
def RkAt (H : Hp) (a : Addr) (t : List Nat) : Prop := ∃ b, H a = some (.tup [vn t.length, .ref b]) ∧ TmAt H b t
theorem RkAt.dp {a : Addr} {t : List Nat} (h : RkAt H a t) : Dp K H (.ref a) (rkD t) := by
  obtain ⟨b, e, h⟩ := h
  exact .tup (SqT.of e) (.cons (.int _) (.cons (TmAt.dp h) .nil))
end
/-! ### polynomials compared, ranks compared -/
def rPoEq : R2 := fun x y H Q => ∃ a b P R, x = .ref a ∧ y = .ref b ∧ PoAt H a P ∧ PoAt H b R ∧ Q (.bl (decide (P = R))) H
def rPoNe : R2 := fun x y H Q => ∃ a b P R, x = .ref a ∧ y = .ref b ∧ PoAt H a P ∧ PoAt H b R ∧ Q (.bl (!decide (P = R))) H
def rRkLt : R2 := fun x y H Q => ∃ a b t u, x = .ref a ∧ y = .ref b ∧ RkAt H a t ∧ RkAt H b u ∧ Q (.bl (rlt t u)) H
section
variable {X : Cx}
theorem op_poNe (hu : X.A.units + 64 < cLine) : OpR X (compareOp .NotEq) rPoNe := by
  intro pins s σ H x y v u Q I rx ry h
  obtain ⟨a, b, P, R, rfl, rfl, h1, h2, q⟩ := h
  exact op_neD hu pins s σ H _ _ v u Q I rx ry ⟨pD P, pD R, h1.dp, h2.dp, shaped_pD P, shaped_pD R, by rw [eqv_pD]; exact q⟩
theorem op_rkLt (hu : X.A.units + 64 < cLine) : OpR X (compareOp .Lt) rRkLt := by
  intro pins s σ H x y v u Q I rx ry h
  obtain ⟨a, b, t, u', rfl, rfl, h1, h2, q⟩ := h
  obtain ⟨as, r1⟩ := Dp.reads I (rkD t) _ v h1.dp rx
  obtain ⟨bs, r2⟩ := Dp.reads I (rkD u') _ u h2.dp ry
  have L := PySem.W.rcLt_alike (rkD t) (rkD u') X.A s v u as bs r1 r2 (alike_rkD t u') (fun z => by unfold rkD at z; cases z) (by rw [depth_rkD, depth_rkD]; omega)
  rw [dataLt_rkD] at L
  exact L X.prog X.w X.xe (EP X pins σ Q) ⟨.bl _, H, I, rfl, q⟩
end
end YN
set_option Elab.async false
set_option linter.all false
set_option maxRecDepth 100000
set_option maxHeartbeats 4000000
/-! dict(pairs) with polynomials as keys: how many it holds -/
namespace YN
open PySem PySem.Spec PyProof.Rows L2
def tK (t : List Nat) : NestedKey := .tup (t.map fun n : Nat => .num (n : Int))
def pK (P : List (List Nat)) : NestedKey := .tup (P.map tK)
theorem num_inj : ∀ {t u : List Nat}, (t.map fun n : Nat => NestedKey.num (n : Int)) = u.map (fun n : Nat => NestedKey.num (n : Int)) → t = u
  | [], [], _ => rfl
  | [], _ :: _, h => by simp at h
  | _ :: _, [], h => by simp at h
  | a :: t, b :: u, h => by
    rw [List.map_cons, List.map_cons, List.cons.injEq] at h
    have h1 : (a : Int) = (b : Int) := NestedKey.num.inj h.1
    rw [num_inj h.2, show a = b by omega]
theorem tK_inj {t u : List Nat} (h : tK t = tK u) : t = u := num_inj (NestedKey.tup.inj h)
theorem tKs_inj : ∀ {t u : List (List Nat)}, t.map tK = u.map tK → t = u
  | [], [], _ => rfl
  | [], _ :: _, h => by simp at h
  | _ :: _, [], h => by simp at h
  | a :: t, b :: u, h => by
    rw [List.map_cons, List.map_cons, List.cons.injEq] at h
    rw [tKs_inj h.2, tK_inj h.1]
theorem pK_inj {P R : List (List Nat)} (h : pK P = pK R) : P = R := tKs_inj (NestedKey.tup.inj h)
theorem depthN : ∀ t : List Nat, NestedKey.depthAll (t.map fun n : Nat => .num (n : Int)) = 0
  | [] => by simp [NestedKey.depthAll]
  | a :: t => by
    rw [List.map_cons]
    simp [NestedKey.depthAll, NestedKey.depth, depthN t]
theorem depth_tK (t : List Nat) : (tK t).depth = 1 := by
  unfold tK
  rw [NestedKey.depth, depthN]
theorem depth_tKs : ∀ P : List (List Nat), NestedKey.depthAll (P.map tK) ≤ 1
  | [] => by simp [NestedKey.depthAll]
  | t :: P => by
    have := depth_tKs P
    rw [List.map_cons, NestedKey.depthAll, depth_tK]
    omega
theorem depth_pK (P : List (List Nat)) : (pK P).depth ≤ 8 := by
  unfold pK
  have := depth_tKs P
  rw [NestedKey.depth]
  omega
section
variable {X : Cx} {pins : List (Addr × Obj)} {σ : L2.St} {H : Hp} {s : Shared}
theorem nested_nums {h : Heap} : ∀ {t : List Nat} {us : List Value}, Vals (vns t) us → NestedAll h (t.map fun n : Nat => .num (n : Int)) us
  | [], _, .nil => .nil
  | a :: t, _, .cons r rr => by
    obtain ⟨k, rfl⟩ := r
    exact .cons (.int _ _) (nested_nums rr)
theorem nested_tm (I : Inv X pins σ H s) {b : Addr} {t : List Nat} (h : TmAt H b t) : NestedIs s.heap (tK t) (.ref b) := by
  obtain ⟨its, rv, ⟨o, ho, hc, n, hd⟩, _⟩ := I.tuple (SqT.of h)
  exact .tup ho hc hd (nested_nums rv)
theorem nested_tms (I : Inv X pins σ H s) : ∀ {bs : List Addr} {ts : List (List Nat)}, TmsAt H bs ts → NestedAll s.heap (ts.map tK) (bs.map Value.ref)
  | _, _, .nil => .nil
  | _, _, .cons h r => .cons (nested_tm I h) (nested_tms I r)
theorem nested_po (I : Inv X pins σ H s) {a : Addr} {P : List (List Nat)} (h : PoAt H a P) : (nestedKind X.prog X.w).is s.heap (pK P) a := by
  obtain ⟨bs, e, h⟩ := h
  obtain ⟨its, rv, ⟨o, ho, hc, n, hd⟩, _⟩ := I.tuple (SqT.of e)
  refine ⟨.tup ho hc hd ?_, depth_pK P⟩
  rw [refs_at rv]
  exact nested_tms I h
end
/-- a dict of n entries stands at d -/
def DLen (d : Addr) (n : Nat) : HO := .ext fun h => (d == sysModules) = false ∧ ∃ es ep, h.DictRaw d es ep ∧ es.size = n
theorem merged_new {κ : Type} [DecidableEq κ] : ∀ (more kvs : List (κ × Value)), (more.map (·.1)).Nodup → (∀ p ∈ more, ∀ q ∈ kvs, q.1 ≠ p.1) → (merged kvs more).length = kvs.length + more.length
  | [], kvs, _, _ => rfl
  | p :: more, kvs, nd, h => by
    rw [List.map_cons, List.nodup_cons] at nd
    have e : stored kvs p.1 p.2 = kvs ++ [(p.1, p.2)] := by
      unfold stored
      rw [if_neg]
      intro z
      obtain ⟨q, hq, e⟩ := List.any_eq_true.mp z
      exact h p List.mem_cons_self q hq (of_decide_eq_true e)
    show (merged (stored kvs p.1 p.2) more).length = _
    rw [e, merged_new more _ nd.2 fun p' hp' q hq => ?_]
    · simp
      omega
    · rcases List.mem_append.mp hq with z | z
      · exact h p' (List.mem_cons_of_mem _ hp') q z
      · rw [List.mem_singleton.mp z]
        exact fun e => nd.1 (by rw [e]; exact List.mem_map_of_mem (f := (·.1)) hp')
def rDictP (K : PySem.W.Frag) : List V → Hp → VK → Prop := fun xs H Q => ∃ (a : Addr) (Ts pa : List Addr) (Ps : List (List (List Nat))), xs = [.ref a] ∧ SqL K H a (Ts.map .ref) ∧ Paired (fun T p => H T = some (.tup [.ref p, .bl true])) Ts pa ∧ Paired (PoAt H) pa Ps ∧ Ps.Nodup ∧ Ps.length ≤ 1000 ∧
  ∀ d, H d = none → Q (.ref d) (upd H d (DLen d Ps.length))
theorem call_dictPo {X : Cx} (hc : X.calm = true) (hu : X.A.units + 64 < cLine) : CallR X (.type "dict") (rDictP X.K) := by
  intro pins s σ H xs us Q I r h
  obtain ⟨a, Ts, pa, Ps, rfl, hS, hT, hP, nd, hlen, q⟩ := h
  rw [Vals.ref1 r]
  obtain ⟨its, rv, ⟨o, no, ho, hcl, hdn, hdt⟩, _⟩ := I.list hS
  have ei := refs_at rv
  subst ei
  have l1 := paired_len hT
  have l2 := paired_len hP
  have hps : ∀ (j : Nat) (k v : Value), (pa.map fun p => (Value.ref p, Value.bool true))[j]? = some (k, v) → ∃ p T P, pa[j]? = some p ∧ Ts[j]? = some T ∧ Ps[j]? = some P ∧ k = .ref p ∧ v = .bool true := fun j k v hj => by
    rw [List.getElem?_map] at hj
    cases e : pa[j]? with
    | none => rw [e] at hj; cases hj
    | some p =>
      rw [e] at hj
      cases hj
      have hlt : j < pa.length := (List.getElem?_eq_some_iff.mp e).1
      exact ⟨p, Ts[j]'(by omega), Ps[j]'(by omega), rfl, List.getElem?_eq_getElem (by omega), List.getElem?_eq_getElem (by omega), rfl, rfl⟩
  refine dict_keyed (knd := nestedKind X.prog X.w) (kvs := (Ps.map pK).map fun k => (k, Value.bool true)) nestedKind_stays
    (PairArg.list a (Ts.map Value.ref).toArray (fun j => Ts.getD j 0) (pa.map fun p => (Value.ref p, Value.bool true))) (I.ok.hd hc) ?_ ⟨⟨o, no, ho, hcl, hdn, hdt⟩, ?_, ?_⟩ ⟨(pa.zip Ps).map fun z => (pK z.2, z.1, Value.bool true), ?_, ⟨?_, ?_⟩, ?_⟩ nestedKind_stays.all ?_ fun h' tk hd' hk => ?_
  · show X.A.in1.in1.units + 8 < cLine
    show X.A.units + 1 + 1 + 8 < cLine
    omega
  · simp [l1]
  · intro j k v hj
    obtain ⟨p, T, P, e1, e2, e3, rfl, rfl⟩ := hps j k v hj
    have hTj := paired_get hT e2 e1
    refine ⟨by simp [e2], .inl ?_⟩
    obtain ⟨its2, r2, p2, _⟩ := I.tuple (SqT.of hTj)
    obtain ⟨u1, u2, rfl, h1, h2⟩ := vals2 r2
    cases h1
    cases h2
    have eT : Ts.getD j 0 = T := by rw [List.getD_eq_getElem?_getD, e2]; rfl
    show s.heap.IsTuple (Ts.getD j 0) #[Value.ref p, Value.bool true]
    rw [eT]
    exact p2
  · unfold pairsH
    rw [List.map_map, List.map_map]
    have e : ((pa.zip Ps).map fun z => (pK z.2, Value.bool true)) = ((pa.zip Ps).map Prod.snd).map fun P => (pK P, Value.bool true) := by
      rw [List.map_map]
      rfl
    refine Eq.trans e ?_
    rw [List.map_snd_zip (by omega)]
    rfl
  · simp [l2]
  · intro j k v hj
    obtain ⟨p, T, P, e1, e2, e3, rfl, rfl⟩ := hps j k v hj
    refine ⟨pK P, p, ?_, rfl⟩
    rw [List.getElem?_map, List.getElem?_zip_eq_some (z := (p, P)) |>.mpr ⟨e1, e3⟩]
    rfl
  · intro x hx
    obtain ⟨z, hz, rfl⟩ := List.mem_map.mp hx
    obtain ⟨j, hj⟩ := List.mem_iff_getElem?.mp hz
    obtain ⟨h1, h2⟩ := List.getElem?_zip_eq_some.mp hj
    exact nested_po I (paired_get hP h1 h2)
  · rw [List.length_map]
    exact szl (by omega)
  · obtain ⟨es, ep, hr, hz, _⟩ := hd'.walk
    have en : (merged ([] : List (NestedKey × Value)) ((Ps.map pK).map fun k => (k, Value.bool true))).length = Ps.length := by
      rw [merged_new]
      · simp
      · rw [List.map_map]
        show ((Ps.map pK).map id).Nodup
        rw [List.map_id, List.Nodup, List.pairwise_map]
        exact nd.imp fun h e => h (pK_inj e)
      · intro p _ q hq
        cases hq
    rw [en] at hz
    have kept : ∀ b o, s.heap.get? b = some o → h'.get? b = some o := fun b o e => hk b o (fun z => nomatch z) e
    have hbig := I.big
    have hsys : (s.heap.objs.size == sysModules) = false := beq_eq_false_iff_ne.mpr (Nat.ne_of_gt hbig)
    refine ⟨.ref s.heap.objs.size, _, I.laid (t' := tk) (o := DLen s.heap.objs.size Ps.length) kept (Nat.le_refl _) ⟨⟨hsys, es, ep, hr, hz⟩, ?_, ?_⟩, rfl, q _ (I.hok.fresh (Nat.le_refl _))⟩
    · obtain ⟨o, ho, _⟩ := hr
      exact ⟨o, ho⟩
    · rintro h1 h2 ⟨hs, es, ep, hr, hz⟩ st
      exact ⟨hs, es, ep, hr.at st, hz⟩
theorem call_lenDict {X : Cx} : CallR X (.builtin "len") (fun xs H Q => ∃ d n, xs = [.ref d] ∧ H d = some (DLen d n) ∧ n ≤ 1000 ∧ Q (vn n) H) := by
  intro pins s σ H xs us Q I r h
  obtain ⟨d, n, rfl, hd, hn, q⟩ := h
  rw [Vals.ref1 r]
  obtain ⟨⟨hs, es, ep, hr, hz⟩, _, _⟩ := I.hok d _ hd
  refine PyProof.Rows.call_len_slot (n := (es.size : Int)) hr.typeIs PySem.F.slot_dict_len (fun Q' hq => call_len_raw hs hr hq) (by omega) (by omega) ?_
  exact ⟨vn n, H, I.tok _, ⟨_, by rw [hz]⟩, q⟩
end YN
set_option Elab.async false
set_option linter.all false
set_option maxRecDepth 100000
set_option maxHeartbeats 4000000
/-! sorted(.., key=..): a key that tells (length, term) -/
namespace YN
open PySem PySem.Spec PyProof.Rows L2
section
variable {prog : Program} {w : World} {A : Around} {E : Value → Shared → Prop} {s : Shared}
/-- (len(x), x), x a local name that holds a tuple -/
theorem rank_eval {env : Env} {x : Str} {p1 p2 p3 p4 pos : Pos} {k : Nat} {m mg mb : Str → Option Value} {b : Addr} {its : List Value} {Q : Value → Shared → Prop} (hk : env.scope.kind = .function) (hx : env.kindOf x = some .local) (hl : env.kindOf ("len" : Str) = some .globalImplicit)
    (hg : s.heap.Ns env.globals mg) (hb : s.heap.Ns env.builtins mb) (mgl : mg "len" = none) (mbl : mb "len" = some (.builtin "len")) (hm : s.heap.Ns env.locals m) (mx : m x = some (.ref b)) (ht : IsTup s.heap b its.toArray) (hz : its.length ≤ 100000)
    (hd : (x == ("__debug__" : Str)) = false)
    (h : ∀ (t : Tok) (tk : Nat), Q (.ref s.heap.objs.size) { s with heap := s.heap.push { cls := .type "tuple", data := .seq #[.int its.length t, .ref b] }, toks := tk }) :
    wpAny (model prog w) A (eval (.Tuple [.Call (.Name "len" p1) [.Name x p2] [] p3, .Name x p4] k pos) env) Q E s := by
  refine wpAny_Tuple_spliced ?_
  have e1 : starEach [Expr.Call (.Name "len" p1) [.Name x p2] [] p3, .Name x p4] env = (false, eval (.Call (.Name "len" p1) [.Name x p2] [] p3) env) :: (false, eval (.Name x p4) env) :: starEach [] env := by rfl
  rw [e1]
  show wpAny _ _ (spliced ((false, eval (.Call (.Name "len" p1) [.Name x p2] [] p3) env) :: (false, eval (.Name x p4) env) :: [])) _ _ s
  refine Calls.spliced_cons ?_
  have hnm : ∀ (p : Pos) (Q' : Value → Shared → Prop) (s' : Shared), s'.heap = s.heap → Q' (.ref b) s' → wpAny (model prog w) A (eval (.Name x p) env) Q' E s' := fun p Q' s' e q =>
    wpAny_Name (wpAny_loadName_local hk hx (by rw [e]; exact hm) mx q) hd
  refine wpAny_Call_Name_kw (Calls.Name_function_global hk hl (Calls.loadGlobal_builtin hg mgl hb mbl ?_))
  refine PyProof.Rows.callWith_builtin1 (PyProof.Rows.args_cons (hnm _ _ _ rfl (PyProof.Rows.args_nil ?_)) rfl) rfl rfl
  have hsz : its.toArray.size = its.length := List.size_toArray ..
  refine PyProof.Rows.len_tuple ht (by omega) ?_
  refine Calls.spliced_cons (hnm _ _ _ rfl (Calls.spliced_nil ⟨by show 2 ≤ sizeLine; decide, ?_⟩))
  rw [hsz]
  exact h _ _
end
theorem istup_kept {h h' : Heap} {b : Addr} {its : Array Value} (x : IsTup h b its) (k : ∀ b o, h.get? b = some o → h'.get? b = some o) : IsTup h' b its := by
  obtain ⟨o, ho, r⟩ := x
  exact ⟨o, k _ _ ho, r⟩
theorem reads_ints {h : Heap} : ∀ {t : List Nat} {us : List Value}, Vals (vns t) us → ReadsAll h us (t.map iD) []
  | [], _, .nil => .nil
  | a :: t, _, .cons r rr => by
    obtain ⟨k, rfl⟩ := r
    exact ReadsAll.cons (as := []) (bs := []) (.int _ _) (reads_ints rr)
theorem reads_rank {h : Heap} {a b : Addr} {t : List Nat} {us : List Value} {k : Tok} (ha : h.get? a = some { cls := .type "tuple", data := .seq #[.int t.length k, .ref b] }) (hb : IsTup h b us.toArray) (r : Vals (vns t) us) : Reads h (.ref a) (rkD t) [] := by
  obtain ⟨o, ho, hc, n, hd⟩ := hb
  exact Reads.tuple ha rfl rfl (ReadsAll.cons (as := []) (bs := []) (.int _ _) (ReadsAll.cons (as := []) (bs := []) (Reads.tuple ho hc hd (reads_ints r)) .nil))
section
variable {P : Program} {w : World} {K : PySem.W.Frag} {mg : Str → Option Value} {base : Heap}
/-- rank_of(t): the heap is kept -/
theorem rank_call {f b : Addr} {fd : FuncData} {t : List Nat} {us : List Value} {A : Around} {s : Shared} {mb : Str → Option Value} (F : FnP K "rank_of" s_rank_of f fd) (KX : K.In s.heap) (lim : s.heap.NoLimit) (hr : A.depth < recursionLimit) (G : s.heap.Ns mainGlobals mg) (B : s.heap.Ns builtinsNs mb)
    (ml : mg "len" = none) (hmb : mb "len" = some (.builtin "len")) (ht : IsTup s.heap b us.toArray) (r : Vals (vns t) us) (hz : t.length ≤ 100000) :
    wpAny (model P w) A (call (.ref f) [.ref b]) (PySem.W.KeyPure (rkD t) s) (fun _ _ => False) s := by
  have Bd : Binds K fd ["term"] [] := FunD.bindsN F fun _ _ _ _ _ _ us hl => match us, hl with | [_], _ => rfl
  obtain ⟨oc, od, dV, kV, doc, pm, an, cdv, ct, osl, rfl, lk, hcd, _, _⟩ := F.ex
  have hlen : us.length = t.length := by rw [← r.length, List.length_map]
  have rc : codeAny (model P w) A (.call (.ref f) ⟨[.ref b], []⟩) (fun r s' => ∃ v, r = .ok (.ret v) ∧ PySem.W.KeyPure (rkD t) s v s') s := by
    refine codeAny_call_function hr (KX _ _ lk) rfl rfl rfl rfl (PySem.W.codeRec_of KX hcd) ?_
    refine Bd s [.ref b] KX rfl _ _ _ _ ?_
    refine wpAny_newFunctionEnv_cells rfl (fun y hy => ?_) fun env he s1 x => ?_
    · have hy : y ∈ [(("term" : Str), Value.ref b)] := hy
      rw [List.mem_singleton.mp hy]
      exact .inl rfl
    subst he
    refine ⟨lim.keeps x.toInCall.keep, codeAny_func ?_⟩
    obtain ⟨h1, tk, rfl, hk⟩ := x.done
    refine wpAny_execs_cons (wpAny_Return_some (rank_eval (its := us) rfl rfl rfl (G.keeps hk) (B.keeps hk) ml hmb x.toInCall.ns rfl (istup_kept ht hk) (by omega) (by decide) fun t' tk' => ?_))
    refine ⟨_, rfl, _, tk', rfl, fun b' o e => Heap.get?_push_of_some _ (hk b' o e), ?_⟩
    refine reads_rank (k := t') ?_ (istup_kept ht fun b' o e => Heap.get?_push_of_some _ (hk b' o e)) r
    rw [← hlen]
    exact Heap.get?_push_size _ rfl
  refine wpAny_call (codeAny_mono rc fun r s' hq => ?_)
  obtain ⟨v, rfl, q⟩ := hq
  exact q
end
/-! ### the rule -/
open PySem.W in
theorem each_tms {H : Hp} : ∀ {bs : List Addr} {ts : List (List Nat)}, TmsAt H bs ts → EachIs (fun (v : Value) (x : Addr × List Nat) => v = .ref x.1 ∧ TmAt H x.1 x.2) (bs.map Value.ref) (bs.zip ts)
  | _, _, .nil => .nil
  | _, _, .cons h r => .cons ⟨rfl, h⟩ (each_tms r)
open PySem.W in
theorem each_back {H : Hp} : ∀ {out : List Value} {L : List (Addr × List Nat)}, EachIs (fun (v : Value) (x : Addr × List Nat) => v = .ref x.1 ∧ TmAt H x.1 x.2) out L → Vals ((L.map (·.1)).map V.ref) out ∧ TmsAt H (L.map (·.1)) (L.map (·.2))
  | _, _, .nil => ⟨.nil, .nil⟩
  | _, _, .cons h r => by
    obtain ⟨h1, h2⟩ := each_back r
    exact ⟨.cons h.1 h1, .cons h.2 h2⟩
theorem sort_snd {bs : List Addr} {ts : List (List Nat)} (hl : bs.length = ts.length) : (((bs.zip ts).mergeSort (PySem.W.dataLe false fun x : Addr × List Nat => rkD x.2)).map (·.2)) = srt ts := by
  rw [PySem.W.sort_maps (s := rle) (fun x : Addr × List Nat => x.2) (fun a _ b _ => ?_), List.map_snd_zip (by omega)]
  · rfl
  · rw [PySem.W.dataLe_eq]
    show (!PySem.W.dataLt (rkD b.2) (rkD a.2)) = rle a.2 b.2
    rw [dataLt_rkD]
    rfl
/-- sorted of a list of terms by a key that tells (length, term): turn is what is known of the key's call -/
theorem sorted_rank {X : Cx} {pins : List (Addr × Obj)} {σ : L2.St} {H : Hp} {s : Shared} {a f : Addr} {bs : List Addr} {ts : List (List Nat)} {Q : VK} (I : Inv X pins σ H s) (hu : X.A.units + 64 < cLine) (hS : SqL X.K H a (bs.map .ref)) (ht : TmsAt H bs ts) (hz : ts.length ≤ 100000)
    (turn : ∀ (b : Addr) (t : List Nat), t ∈ ts → TmAt H b t → ∀ (h : Heap) (tk : Nat), (∀ b o, s.heap.get? b = some o → h.get? b = some o) →
      wpAny (model X.prog X.w) X.A.in1.in1 (call (.ref f) [.ref b]) (PySem.W.KeyPure (rkD t) { s with heap := h, toks := tk }) (fun _ _ => False) { s with heap := h, toks := tk })
    (q : ∀ p bs', H p = none → TmsAt H bs' (srt ts) → Q (.ref p) (upd H p (.lst (bs'.map .ref)))) :
    wpAny (model X.prog X.w) X.A (call (.builtin "sorted") [.ref a] [(Str.ofString "key", .ref f)]) (EP X pins σ Q) X.xe s := by
  obtain ⟨its, rv, hl, _⟩ := I.list hS
  have ei := refs_at rv
  subst ei
  have ll := paired_len ht
  have lz : (bs.zip ts).length = ts.length := by rw [List.length_zip]; omega
  refine PySem.W.sorted_key_data (b := false) (bs := bs.zip ts) (fun x : Addr × List Nat => rkD x.2) hl.isList (each_tms ht) (PySem.W.AllAlike.of fun x y => alike_rkD x.2 y.2) (PySem.W.Sortable.tuples fun x => ⟨_, _, rfl⟩) (by rw [lz]; exact szl hz)
    (fun x _ => by rw [depth_rkD]; omega) (PyProof.Rows.ksk_s1 _ _) (fun _ => PyProof.Rows.ksk_l1 _ _) (fun _ => PyProof.Rows.ksk_t1 _ _) (fun v x hx hm h tk kp => ?_) fun out c h' tk kp _ hD hlen eo => ?_
  · obtain ⟨rfl, h2⟩ := hx
    exact turn x.1 x.2 (List.of_mem_zip hm).2 h2 h tk kp
  · obtain ⟨r1, r2⟩ := each_back eo
    rw [sort_snd ll] at r2
    refine ⟨.ref (s.heap.objs.size + 1), _, I.laid (t' := tk) (o := .lst ((((bs.zip ts).mergeSort (PySem.W.dataLe false fun x : Addr × List Nat => rkD x.2)).map (·.1)).map .ref)) kp (Nat.le_succ _) ⟨?_, out, c, r1, hD⟩, rfl, q _ _ (I.hok.fresh (Nat.le_succ _)) r2⟩
    rw [r1.length, hlen, lz]
    exact szl hz
section
variable {X : Cx}
def rSortRank (K : PySem.W.Frag) (f : Addr) : List V → List V → Hp → VK → Prop := fun vs zs H Q => ∃ a bs ts, vs = [.ref a] ∧ zs = [.ref f] ∧ SqL K H a (bs.map .ref) ∧ TmsAt H bs ts ∧ ts.length ≤ 100000 ∧ (∀ t ∈ ts, t.length ≤ 100000) ∧
  ∀ p bs', H p = none → TmsAt H bs' (srt ts) → Q (.ref p) (upd H p (.lst (bs'.map .ref)))
/-- sorted(xs, key=rank_of) -/
theorem cr_sortRank {f : Addr} {fd : FuncData} {k : Nat} (F : FnP X.K "rank_of" s_rank_of f fd) (hr : Room (k + 2) X.A) (ml : X.mg "len" = none) : CallRK X (.builtin "sorted") [Str.ofString "key"] (rSortRank X.K f) := by
  intro pins s σ H vs zs us ws Q I r rz h
  obtain ⟨a, bs, ts, rfl, rfl, hS, ht, hz, hts, q⟩ := h
  rw [Vals.ref1 r, Vals.ref1 rz]
  refine sorted_rank I hr.units hS ht hz (fun b t hm hb h tk kp => ?_) q
  obtain ⟨its, rv, hl, _⟩ := I.tuple (SqT.of hb)
  obtain ⟨mb, h1, h2⟩ := I.mod.blt
  have hbk : ∀ b o, X.base.get? b = some o → h.get? b = some o := fun b o e => kp b o (I.bk b o e)
  exact rank_call (s := { s with heap := h, toks := tk }) F (I.mod.kin.keeps hbk) (I.mod.nolimit.keeps hbk) (by
    have := hr.dp
    show X.A.depth < recursionLimit
    omega) (I.mod.glob.keeps hbk) (h1.keeps hbk) ml ((h2 _ (by decide)).trans (by decide +kernel)) (istup_kept hl kp) rv (hts t hm)
end
end YN
set_option Elab.async false
set_option linter.all false
set_option maxRecDepth 100000
set_option maxHeartbeats 4000000
namespace YN
open PySem PySem.Spec PyProof.Rows L2
theorem sc_is_term : FnScope ["many", "thing", "one", "other"] ["many", "thing"] (defScope s_is_term) := ⟨rfl, rfl, rfl, by decide +kernel, rfl, by decide +kernel, by decide +kernel⟩
theorem sc_rank_of : FnScope ["term"] ["term"] (defScope s_rank_of) := ⟨rfl, rfl, rfl, by decide +kernel, rfl, by decide +kernel, by decide +kernel⟩
theorem sc_is_poly : FnScope ["many", "thing", "one", "other"] ["many", "thing"] (defScope s_is_poly) := ⟨rfl, rfl, rfl, by decide +kernel, rfl, by decide +kernel, by decide +kernel⟩
theorem sc_in_order : FnScope ["some"] ["some"] (defScope s_in_order) := ⟨rfl, rfl, rfl, by decide +kernel, rfl, by decide +kernel, by decide +kernel⟩
theorem sc_degree : FnScope ["poly", "term"] ["poly"] (defScope s_degree) := ⟨rfl, rfl, rfl, by decide +kernel, rfl, by decide +kernel, by decide +kernel⟩
theorem sc_place_of : FnScope ["term"] ["term"] (defScope s_place_of) := ⟨rfl, rfl, rfl, by decide +kernel, rfl, by decide +kernel, by decide +kernel⟩
theorem sc_term_at : FnScope ["place"] ["place"] (defScope s_term_at) := ⟨rfl, rfl, rfl, by decide +kernel, rfl, by decide +kernel, by decide +kernel⟩
theorem sc_value : FnScope ["poly", "place", "term"] ["poly", "place"] (defScope s_value) := ⟨rfl, rfl, rfl, by decide +kernel, rfl, by decide +kernel, by decide +kernel⟩
theorem sc_word_of : FnScope ["many", "poly", "term"] ["many", "poly"] (defScope s_word_of) := ⟨rfl, rfl, rfl, by decide +kernel, rfl, by decide +kernel, by decide +kernel⟩
theorem sc_poly_of : FnScope ["many", "word", "place"] ["many", "word"] (defScope s_poly_of) := ⟨rfl, rfl, rfl, by decide +kernel, rfl, by decide +kernel, by decide +kernel⟩
theorem sc_poly_sum : FnScope ["one", "other"] ["one", "other"] (defScope s_poly_sum) := ⟨rfl, rfl, rfl, by decide +kernel, rfl, by decide +kernel, by decide +kernel⟩
theorem sc_poly_product : FnScope ["one", "other", "found", "term", "more"] ["one", "other"] (defScope s_poly_product) := ⟨rfl, rfl, rfl, by decide +kernel, rfl, by decide +kernel, by decide +kernel⟩
theorem sc_odd_ones : FnScope ["some", "times_met", "term"] ["some"] (defScope s_odd_ones) := ⟨rfl, rfl, rfl, by decide +kernel, rfl, by decide +kernel, by decide +kernel⟩
section
variable {X : Cx} {K : PySem.W.Frag}
theorem pg_tupK {es : List Expr} {k : Nat} {pos : Pos} {t : TGs} {n : Nat} (h : X.K = K) (hc : X.calm = true) (hg : PGs X es t) (hn : (assignEach es X.env).length = n := by rfl) (hst : (assignEach es X.env).findIdx? (·.1) = none := by rfl) : PG X (.Tuple es k pos) (gTup K n t) := by
  rw [← h]
  exact pg_tup hc hg hn hst
theorem gTup2_mono (K : PySem.W.Frag) (i j : Nat) : ∀ (x : V) (σ : L2.St) (H : Hp) (Q Q' : L2.St → Hp → Prop), (∀ σ2 H2, Q σ2 H2 → Q' σ2 H2) → gTup K 2 (gCons (gName i) (gCons (gName j) gNil)) x σ H Q → gTup K 2 (gCons (gName i) (gCons (gName j) gNil)) x σ H Q' := by
  intro x σ H Q Q' h q
  obtain ⟨a, xs, e1, e2, e3, v, r, e4, v2, r2, e5, e6, q⟩ := q
  exact ⟨a, xs, e1, e2, e3, v, r, e4, v2, r2, e5, e6, h _ _ q⟩
/-- t[1:], t[:n] of a tuple -/
theorem cut_from1 (xs : List V) : cutV xs (some 1) none = xs.drop 1 := by
  unfold cutV
  rw [show HT.sIx xs.length 0 (some 1) = min 1 xs.length from HT.sIx_nat xs.length 0 1, HT.sIx_none]
  cases xs with
  | nil => rfl
  | cons x r =>
    rw [show min 1 (x :: r).length = 1 by rw [List.length_cons]; omega]
    exact List.take_of_length_le (by simp)
theorem cut_to (n : Nat) (xs : List V) : cutV xs none (some (n : Int)) = xs.take n := by
  unfold cutV
  rw [HT.sIx_none, HT.sIx_nat]
  show (xs.drop 0).take (min n xs.length - 0) = xs.take n
  rw [List.drop_zero, Nat.sub_zero]
  rcases Nat.le_total n xs.length with h | h
  · rw [Nat.min_eq_left h]
  · rw [Nat.min_eq_right h, List.take_of_length_le (Nat.le_refl _), List.take_of_length_le h]
theorem sl_from1 {H : Hp} {a : Addr} {xs : List V} {Q : VK} (h : SqT K H a xs) (k : ∀ b H1, Same H H1 → SqT K H1 b (xs.drop 1) → Q (.ref b) H1) : rSlA K (.ref a) (some 1) none H Q := by
  refine ⟨a, xs, rfl, h, fun hw => ?_, fun _ p np => ?_⟩
  · refine k a H (Same.refl _) ?_
    have e : xs = [] := by
      have h1 := hw.1
      rw [show HT.sIx xs.length 0 (some 1) = min 1 xs.length from HT.sIx_nat xs.length 0 1] at h1
      exact List.eq_nil_of_length_eq_zero (by omega)
    subst e
    exact h
  · refine k p _ (same_new np) (SqT.of ?_)
    rw [upd_same, cut_from1]
theorem sl_to {H : Hp} {a : Addr} {xs : List V} {Q : VK} (n : Nat) (h : SqT K H a xs) (k : ∀ b H1, Same H H1 → SqT K H1 b (xs.take n) → Q (.ref b) H1) : rSlA K (.ref a) none (some (n : Int)) H Q := by
  refine ⟨a, xs, rfl, h, fun hw => ?_, fun _ p np => ?_⟩
  · refine k a H (Same.refl _) ?_
    have h1 := hw.2
    rw [HT.sIx_nat] at h1
    rw [List.take_of_length_le (by omega)]
    exact h
  · refine k p _ (same_new np) (SqT.of ?_)
    rw [upd_same, cut_to]
end
theorem vns_drop (l : List Nat) (n : Nat) : (vns l).drop n = vns (l.drop n) := List.map_drop.symm
section
variable {P : Program} {w : World} {K : PySem.W.Frag} {mg : Str → Option Value} {base : Heap}
def spIsTerm : Sp := spG (fun a : Nat × Addr × List Nat => [vn a.1, .ref a.2.1]) fun a H Q => a.1 ≤ 6 ∧ TmAt H a.2.1 a.2.2 ∧ TermOk a.1 a.2.2 ∧ ∀ H', Same H H' → Q (.bl true) H'
theorem dn_is_term (T : Txt K mg) : Dn P w K mg base "is_term" 2 ["many", "thing"] spIsTerm := by
  refine dnG (N := ["many", "thing", "one", "other"]) T.d_is_term sc_is_term (fun f fd F => FunD.bindsN (ps := ["many", "thing"]) F fun _ _ _ _ _ _ us hl => match us, hl with | [_, _], _ => rfl) (fun _ => rfl) (fun f cdv A outer s H a Q E hr h => ?_)
  obtain ⟨m, b, t⟩ := a
  obtain ⟨hm, hb, ok, q⟩ := h
  refine ⟨_, pss_cons (ps_if (PW.pt (pw_or (pt_not (pt_val (pe_callB call_isi (by rfl) T.n_isinstance (by decide +kernel) (pa_cons (pv 1) (pa_cons (pe_bltn (v := .ty "tuple") (by rfl) T.n_tuple (by decide +kernel) rfl) pa_nil)))))
      (pw_or1 (pt_not (pt_val (pe_callB (cr_all rfl) (by rfl) T.n_all (by decide +kernel) (pa_cons (pe_lc (own := [("one", 2)]) (by rfl) sc_is_term.nd (pi_tup (pv 1)) (blkOk_by (N := ["many", "thing", "one", "other"]) (sc := defScope s_is_term) (by decide +kernel)) (fun _ _ _ _ _ => pg_name (i := 2) sc_is_term.nd rfl (.inl rfl)) (fun _ _ _ _ _ => pts_nil)
        (fun _ _ _ _ _ => pe_and (pe_dn (dn_is_whole T) hr (by rfl) (pa_cons (pv 2) pa_nil)) (pe_one (pe_chain leN ltN pe_int (pv 2) (pv 0))))) pa_nil)))))))
      (pss_one (ps_ret pe_bl)) pss_nil)
    (pss_one (ps_ret (pe_callB (cr_all rfl) (by rfl) T.n_all (by decide +kernel) (pa_cons (pe_lc (own := [("one", 2), ("other", 3)]) (by rfl) sc_is_term.nd (RZ.pi_zipA (by rfl) T.n_zip (pa_cons (pv 1) (pa_cons (pe_slice sl_tupA (pv 1) (po_some pe_int) po_none) pa_nil))) (blkOk_by (N := ["many", "thing", "one", "other"]) (sc := defScope s_is_term) (by decide +kernel))
        (fun _ _ _ _ _ => pg_tupK (K := K) (n := 2) rfl rfl (pgs_cons (pg_name (i := 2) sc_is_term.nd rfl (.inl rfl)) (pgs_cons (pg_name (i := 3) sc_is_term.nd rfl (.inl rfl)) pgs_nil))) (fun _ _ _ _ _ => pts_nil)
        (fun _ _ _ _ _ => pe_cmpR ltN (pv 2) (pv 3) (nomark _))) pa_nil)))), ?_⟩
  have hm : m ≤ 6 := hm
  have hb : TmAt H b t := hb
  have ok : TermOk m t := ok
  have hl := ok.len
  refine ⟨_, rfl, _, _, _, _, true, rfl, .ty "tuple", .base (.tup hb), kit_ty (by decide +kernel), true, rfl, iteF ?_⟩
  refine ⟨_, rfl, b, rfl, ⟨_, SqT.of hb⟩, fun D nD => lcT (SqT.of hb) (fun _ _ y => y = .bl true) nD (by rw [List.length_map]; omega) (fun _ _ _ _ _ z => z) (fun i H1 x Qy hx sm k => ?_) (fun H1 ys sm hlen hR hD => ?_) (gName_mono 2)⟩
  · obtain ⟨n, e1, rfl⟩ := vns_get hx
    refine ⟨rfl, _, rfl, (n : Int), rfl, true, rfl, iteT ?_⟩
    refine ⟨_, rfl, 0, n, rfl, rfl, true, congrArg V.bl (decide_eq_true (Nat.zero_le _)), iteT ?_⟩
    refine ⟨_, rfl, n, m, rfl, rfl, k _ _ (Same.refl _) ?_⟩
    exact congrArg V.bl (decide_eq_true (ok.2 n (List.mem_of_getElem? e1)))
  have e := trues_are hlen hR
  subst e
  refine ⟨D, _, rfl, SqL.of hD, true, congrArg V.bl (all_trues _), iteF ?_⟩
  have hb1 := sm _ _ hb
  refine ⟨_, rfl, _, rfl, 1, rfl, ?_⟩
  delta tNoPart
  show rSlA K (.ref b) (some 1) none H1 _
  refine sl_from1 (SqT.of hb1) fun c H2 s2 hc => ?_
  rw [vns_drop] at hc
  have hb2 := s2 _ _ hb1
  refine ⟨b, c, vns t, vns (t.drop 1), rfl, .inr ⟨SqT.of hb2, hc, fun D2 nD2 => lcZ (n := (t.drop 1).length) (SqT.of hb2) hc (by simp) (fun _ _ y => y = .bl true) nD2 (by simp; omega) (fun _ _ _ _ _ z => z) (fun i H3 x y U Qy hx hy sm3 nU k => ?_) (fun H3 ys3 sm3 hlen3 hR3 hD3 => ?_) (gTup2_mono K 2 3)⟩⟩
  · obtain ⟨n1, e1, rfl⟩ := vns_get hx
    obtain ⟨n2, e2, rfl⟩ := vns_get hy
    refine ⟨U, _, rfl, SqT.of upd_same, rfl, _, _, rfl, _, _, rfl, rfl, rfl, ?_⟩
    refine ⟨_, rfl, _, rfl, n1, n2, rfl, rfl, k _ _ (same_new nU) ?_⟩
    refine congrArg V.bl (decide_eq_true ?_)
    rw [List.getElem?_drop] at e2
    obtain ⟨h1, f1⟩ := List.getElem?_eq_some_iff.mp e1
    obtain ⟨h2, f2⟩ := List.getElem?_eq_some_iff.mp e2
    rw [← f1, ← f2]
    exact List.pairwise_iff_getElem.mp ok.1 _ _ _ _ (by omega)
  · have e3 := trues_are hlen3 hR3
    subst e3
    refine ⟨D2, _, rfl, SqL.of hD3, ?_⟩
    rw [all_trues]
    exact q _ (Same.trans (Same.trans sm s2) sm3)
def spRankOf : Sp := spG (fun a : Addr × List Nat => [.ref a.1]) fun a H Q => TmAt H a.1 a.2 ∧ ∀ H' p, Same H H' → RkAt H' p a.2 → Q (.ref p) H'
theorem dn_rank_of (T : Txt K mg) : Dn P w K mg base "rank_of" 1 ["term"] spRankOf := by
  refine dnG (N := ["term"]) T.d_rank_of sc_rank_of (fun f fd F => FunD.bindsN (ps := ["term"]) F fun _ _ _ _ _ _ us hl => match us, hl with | [_], _ => rfl) (fun _ => rfl) (fun f cdv A outer s H a Q E hr h => ?_)
  obtain ⟨b, t⟩ := a
  obtain ⟨hb, q⟩ := h
  have hb : TmAt H b t := hb
  refine ⟨_, pss_one (ps_ret (pe_tup (pa_cons (pe_callB call_len_seq (by rfl) T.n_len (by decide +kernel) (pa_cons (pv 0) pa_nil)) (pa_cons (pv 0) pa_nil)))), ?_⟩
  refine ⟨_, rfl, b, _, rfl, .inr (SqT.of hb), _, rfl, szl (Nat.le_of_ble_eq_true rfl), fun p np => ?_⟩
  refine q _ p (same_new np) ⟨b, ?_, hb.same (same_new np)⟩
  rw [upd_same, List.length_map]
/-- the items of a comprehension that makes terms -/
theorem terms_are {H : Hp} : ∀ {ys : List V} {ts : List (List Nat)}, ys.length = ts.length → (∀ (i : Nat) (y : V), ys[i]? = some y → ∃ b t, ts[i]? = some t ∧ y = .ref b ∧ TmAt H b t) → ∃ bs : List Addr, ys = bs.map .ref ∧ TmsAt H bs ts
  | [], [], _, _ => ⟨[], rfl, .nil⟩
  | [], _ :: _, h, _ => by simp at h
  | _ :: _, [], h, _ => by simp at h
  | y :: ys, t :: ts, hl, h => by
    obtain ⟨b, t', e1, e2, e3⟩ := h 0 y rfl
    obtain rfl : t = t' := Option.some.inj e1
    obtain ⟨bs, e4, r⟩ := terms_are (ys := ys) (ts := ts) (by simpa using hl) fun i y' h' => h (i + 1) y' (by simpa using h')
    exact ⟨b :: bs, by rw [e2, e4]; rfl, .cons e3 r⟩
theorem po_get {H : Hp} {bs : List Addr} {ts : List (List Nat)} {i : Nat} {x : V} (h : TmsAt H bs ts) (hx : (bs.map V.ref)[i]? = some x) : ∃ b t, bs[i]? = some b ∧ ts[i]? = some t ∧ x = .ref b ∧ TmAt H b t := by
  rw [List.getElem?_map] at hx
  cases e : bs[i]? with
  | none => rw [e] at hx; cases hx
  | some b =>
    rw [e] at hx
    have hl := paired_len h
    have hi := (List.getElem?_eq_some_iff.mp e).1
    exact ⟨b, ts[i]'(by omega), rfl, List.getElem?_eq_getElem (by omega), (Option.some.inj hx).symm, paired_get h e (List.getElem?_eq_getElem (by omega))⟩
def spIsPoly : Sp := spG (fun a : Nat × Addr × List (List Nat) => [vn a.1, .ref a.2.1]) fun a H Q => a.1 ≤ 6 ∧ PoAt H a.2.1 a.2.2 ∧ PolyOk a.1 a.2.2 ∧ ∀ H', Same H H' → Q (.bl true) H'
theorem dn_is_poly (T : Txt K mg) : Dn P w K mg base "is_poly" 3 ["many", "thing"] spIsPoly := by
  refine dnG (N := ["many", "thing", "one", "other"]) T.d_is_poly sc_is_poly (fun f fd F => FunD.bindsN (ps := ["many", "thing"]) F fun _ _ _ _ _ _ us hl => match us, hl with | [_, _], _ => rfl) (fun _ => rfl) (fun f cdv A outer s H a Q E hr h => ?_)
  obtain ⟨m, b, t⟩ := a
  obtain ⟨hm, hb, ok, q⟩ := h
  refine ⟨_, pss_cons (ps_if (PW.pt (pw_or (pt_not (pt_val (pe_callB call_isi (by rfl) T.n_isinstance (by decide +kernel) (pa_cons (pv 1) (pa_cons (pe_bltn (v := .ty "tuple") (by rfl) T.n_tuple (by decide +kernel) rfl) pa_nil)))))
      (pw_or1 (pt_not (pt_val (pe_callB (cr_all rfl) (by rfl) T.n_all (by decide +kernel) (pa_cons (pe_lc (own := [("one", 2)]) (by rfl) sc_is_poly.nd (pi_tup (pv 1)) (blkOk_by (N := ["many", "thing", "one", "other"]) (sc := defScope s_is_poly) (by decide +kernel)) (fun _ _ _ _ _ => pg_name (i := 2) sc_is_poly.nd rfl (.inl rfl)) (fun _ _ _ _ _ => pts_nil)
        (fun _ _ _ _ _ => pe_dn (dn_is_term T) hr (by rfl) (pa_cons (pv 0) (pa_cons (pv 2) pa_nil)))) pa_nil)))))))
      (pss_one (ps_ret pe_bl)) pss_nil)
    (pss_one (ps_ret (pe_callB (cr_all rfl) (by rfl) T.n_all (by decide +kernel) (pa_cons (pe_lc (own := [("one", 2), ("other", 3)]) (by rfl) sc_is_poly.nd (RZ.pi_zipA (by rfl) T.n_zip (pa_cons (pv 1) (pa_cons (pe_slice sl_tupA (pv 1) (po_some pe_int) po_none) pa_nil))) (blkOk_by (N := ["many", "thing", "one", "other"]) (sc := defScope s_is_poly) (by decide +kernel))
        (fun _ _ _ _ _ => pg_tupK (K := K) (n := 2) rfl rfl (pgs_cons (pg_name (i := 2) sc_is_poly.nd rfl (.inl rfl)) (pgs_cons (pg_name (i := 3) sc_is_poly.nd rfl (.inl rfl)) pgs_nil))) (fun _ _ _ _ _ => pts_nil)
        (fun _ _ _ _ _ => pe_cmpR (op_rkLt hr.units) (pe_dn (dn_rank_of T) (hr.mono (by decide)) (by rfl) (pa_cons (pv 2) pa_nil)) (pe_dn (dn_rank_of T) (hr.mono (by decide)) (by rfl) (pa_cons (pv 3) pa_nil)) (nomark _))) pa_nil)))), ?_⟩
  have hm : m ≤ 6 := hm
  have ok : PolyOk m t := ok
  have hl := polyOk_len hm ok
  obtain ⟨bs, e0, hbs⟩ := hb
  have e0 : H b = some (.tup (bs.map .ref)) := e0
  have hbs : TmsAt H bs t := hbs
  have ll := paired_len hbs
  refine ⟨_, rfl, _, _, _, _, true, rfl, .ty "tuple", .base (.tup e0), kit_ty (by decide +kernel), true, rfl, iteF ?_⟩
  refine ⟨_, rfl, b, rfl, ⟨_, SqT.of e0⟩, fun D nD => lcT (SqT.of e0) (fun _ _ y => y = .bl true) nD (by rw [List.length_map]; omega) (fun _ _ _ _ _ z => z) (fun i H1 x Qy hx sm k => ?_) (fun H1 ys sm hlen hR hD => ?_) (gName_mono 2)⟩
  · obtain ⟨c, u, _, e1, rfl, hc⟩ := po_get hbs hx
    exact ⟨rfl, _, rfl, _, rfl, (m, c, u), rfl, hm, hc.same sm, ok.2 u (List.mem_of_getElem? e1), fun H2 s2 => k _ _ s2 rfl⟩
  have e := trues_are hlen hR
  subst e
  refine ⟨D, _, rfl, SqL.of hD, true, congrArg V.bl (all_trues _), iteF ?_⟩
  have hb1 := sm _ _ e0
  refine ⟨_, rfl, _, rfl, 1, rfl, ?_⟩
  delta tNoPart
  show rSlA K (.ref b) (some 1) none H1 _
  refine sl_from1 (SqT.of hb1) fun c H2 s2 hc => ?_
  rw [← List.map_drop] at hc
  have hb2 := s2 _ _ hb1
  refine ⟨b, c, bs.map .ref, (bs.drop 1).map .ref, rfl, .inr ⟨SqT.of hb2, hc, fun D2 nD2 => lcZ (n := (bs.drop 1).length) (SqT.of hb2) hc (by simp) (fun _ _ y => y = .bl true) nD2 (by simp; omega) (fun _ _ _ _ _ z => z) (fun i H3 x y U Qy hx hy sm3 nU k => ?_) (fun H3 ys3 sm3 hlen3 hR3 hD3 => ?_) (gTup2_mono K 2 3)⟩⟩
  · have s03 : Same H H3 := Same.trans (Same.trans sm s2) sm3
    obtain ⟨c1, u1, _, e1, rfl, hc1⟩ := po_get hbs hx
    obtain ⟨c2, u2, _, e2, rfl, hc2⟩ := po_get (ts := t.drop 1) (paired_drop 1 hbs) hy
    have s04 := Same.trans s03 (same_new (o := .tup [.ref c1, .ref c2]) nU)
    refine ⟨U, _, rfl, SqT.of upd_same, rfl, _, _, rfl, _, _, rfl, rfl, rfl, ?_⟩
    refine ⟨_, rfl, (c1, u1), rfl, hc1.same s04, fun H4 p s4 hp => ?_⟩
    refine ⟨_, rfl, (c2, u2), rfl, hc2.same (Same.trans s04 s4), fun H5 p5 s5 hp5 => ?_⟩
    refine ⟨p, p5, u1, u2, rfl, rfl, ?_, hp5, k _ _ (Same.trans (same_new nU) (Same.trans s4 s5)) ?_⟩
    · obtain ⟨z, z1, z2⟩ := hp
      exact ⟨z, s5 _ _ z1, z2.same s5⟩
    · refine congrArg V.bl ?_
      rw [List.getElem?_drop] at e2
      obtain ⟨h1, f1⟩ := List.getElem?_eq_some_iff.mp e1
      obtain ⟨h2, f2⟩ := List.getElem?_eq_some_iff.mp e2
      rw [← f1, ← f2]
      exact List.pairwise_iff_getElem.mp ok.1 _ _ _ _ (by omega)
  · have e3 := trues_are hlen3 hR3
    subst e3
    refine ⟨D2, _, rfl, SqL.of hD3, ?_⟩
    rw [all_trues]
    exact q _ (Same.trans (Same.trans sm s2) sm3)
/-- in_order: the terms in order -/
def spInOrder (K : PySem.W.Frag) : Sp := spG (fun a : Addr × List Addr × List (List Nat) => [.ref a.1]) fun a H Q => SqL K H a.1 (a.2.1.map .ref) ∧ TmsAt H a.2.1 a.2.2 ∧ a.2.2.length ≤ 1000 ∧ (∀ t ∈ a.2.2, t.length ≤ 1000) ∧ ∀ H' p, Same H H' → PoAt H' p (srt a.2.2) → Q (.ref p) H'
theorem dn_in_order (T : Txt K mg) : Dn P w K mg base "in_order" 4 ["some"] (spInOrder K) := by
  refine dnG (N := ["some"]) T.d_in_order sc_in_order (fun f fd F => FunD.bindsN (ps := ["some"]) F fun _ _ _ _ _ _ us hl => match us, hl with | [_], _ => rfl) (fun _ => rfl) (fun f cdv A outer s H a Q E hr h => ?_)
  obtain ⟨b, bs, ts⟩ := a
  obtain ⟨hS, hbs, hl, ht, q⟩ := h
  obtain ⟨fr, fdr, Fr, gr⟩ := T.d_rank_of
  refine ⟨_, pss_one (ps_ret (pe_callTy call_tuple_of (by rfl) T.n_tuple (by decide +kernel) (pa_cons (pe_callBK (cr_sortRank (k := 1) Fr hr T.n_len) (by rfl) T.n_sorted (by decide +kernel) (pa_cons (pv 0) pa_nil) (pk_cons (pe_glob (v := .ref fr) (by rfl) gr rfl) pk_nil)) pa_nil))), ?_⟩
  refine ⟨_, rfl, b, bs, ts, rfl, rfl, hS, hbs, Nat.le_trans hl (by decide), fun t hm => Nat.le_trans (ht t hm) (by decide), fun p cs np hcs => ?_⟩
  have s1 := same_new (o := .lst (cs.map .ref)) np
  refine ⟨p, _, rfl, .inl ⟨SqL.of upd_same, fun p2 np2 => ?_⟩⟩
  exact q _ p2 (Same.trans s1 (same_new np2)) ⟨cs, upd_same, (TmsAt.same s1 hcs).same (same_new np2)⟩
end
end YN
set_option Elab.async false
set_option linter.all false
set_option maxRecDepth 100000
set_option maxHeartbeats 4000000
namespace YN
open PySem PySem.Spec PyProof.Rows L2
section
variable {P : Program} {w : World} {K : PySem.W.Frag} {mg : Str → Option Value} {base : Heap}
def spDegree : Sp := spG (fun a : Addr × List (List Nat) => [.ref a.1]) fun a H Q => PoAt H a.1 a.2 ∧ a.2.length ≤ 1000 ∧ ∀ H', Same H H' → Q (.int (deg a.2)) H'
theorem lens_are {ts : List (List Nat)} {ys : List V} (h : ys.length = ts.length) (f : ∀ (i : Nat) (y : V), ys[i]? = some y → ∃ t : List Nat, ts[i]? = some t ∧ y = vn t.length) : ys = (ts.map fun t => (t.length : Int)).map V.int := by
  refine List.ext_getElem? fun i => ?_
  rw [List.getElem?_map, List.getElem?_map]
  rcases Nat.lt_or_ge i ys.length with hi | hi
  · obtain ⟨q, h1, h2⟩ := f i _ (List.getElem?_eq_getElem hi)
    rw [List.getElem?_eq_getElem hi, h1, h2]
    rfl
  · rw [List.getElem?_eq_none hi, List.getElem?_eq_none (by omega)]
    rfl
theorem dn_degree (T : Txt K mg) : Dn P w K mg base "degree" 1 ["poly"] spDegree := by
  refine dnG (N := ["poly", "term"]) T.d_degree sc_degree (fun f fd F => FunD.bindsN (ps := ["poly"]) F fun _ _ _ _ _ _ us hl => match us, hl with | [_], _ => rfl) (fun _ => rfl) (fun f cdv A outer s H a Q E hr h => ?_)
  obtain ⟨b, P⟩ := a
  obtain ⟨⟨bs, e0, hbs⟩, hl, q⟩ := h
  have hl : P.length ≤ 1000 := hl
  have e0 : H b = some (.tup (bs.map .ref)) := e0
  have hbs : TmsAt H bs P := hbs
  have ll := paired_len hbs
  refine ⟨_, pss_one (ps_ret (pe_callBK (cr_maxD rfl) (by rfl) T.n_max (by decide +kernel) (pa_cons (pe_lc (own := [("term", 1)]) (by rfl) sc_degree.nd (pi_tup (pv 0)) (blkOk_by (N := ["poly", "term"]) (sc := defScope s_degree) (by decide +kernel)) (fun _ _ _ _ _ => pg_name (i := 1) sc_degree.nd rfl (.inl rfl)) (fun _ _ _ _ _ => pts_nil)
        (fun _ _ _ _ _ => pe_callB (call_lenK (K := K) rfl) (by rfl) T.n_len (by decide +kernel) (pa_cons (pv 1) pa_nil))) pa_nil) (pk_cons (pe_un un_neg pe_int) pk_nil))), ?_⟩
  refine ⟨_, rfl, b, rfl, ⟨_, SqT.of e0⟩, fun D nD => lcT (SqT.of e0) (fun _ i y => ∃ t : List Nat, P[i]? = some t ∧ y = vn t.length) nD (by rw [List.length_map]; omega) (fun _ _ _ _ _ z => z) (fun i H1 x Qy hx sm k => ?_) (fun H1 ys sm hlen hR hD => ?_) (gName_mono 1)⟩
  · obtain ⟨c, u, _, e1, rfl, hc⟩ := po_get hbs hx
    refine ⟨rfl, _, rfl, c, _, rfl, .inr (SqT.of (hc.same sm)), k _ _ (Same.refl _) ⟨u, e1, ?_⟩⟩
    rw [List.length_map]
  · have e := lens_are (by rw [hlen, List.length_map]; exact ll) hR
    subst e
    refine ⟨1, rfl, D, P.map (fun t => (t.length : Int)), -1, rfl, rfl, SqL.of hD, fun M h1 h2 => ?_⟩
    have eM : M = deg P := by
      cases P with
      | nil => exact h1 rfl
      | cons t r =>
        obtain ⟨m1, m2⟩ := h2 (by simp)
        exact deg_is m1 fun u hu => m2 _ (List.mem_map_of_mem (f := fun t : List Nat => (t.length : Int)) hu)
    rw [eM]
    exact q _ sm
def spPlaceOf : Sp := spG (fun a : Addr × List Nat => [.ref a.1]) fun a H Q => TmAt H a.1 a.2 ∧ (∀ q ∈ a.2, q ≤ 100000) ∧ a.2.length ≤ 1000 ∧ ∀ H', Same H H' → Q (vn (wat a.2)) H'
theorem dn_place_of (T : Txt K mg) : Dn P w K mg base "place_of" 2 ["term"] spPlaceOf := by
  refine dnG (N := ["term"]) T.d_place_of sc_place_of (fun f fd F => FunD.bindsN (ps := ["term"]) F fun _ _ _ _ _ _ us hl => match us, hl with | [_], _ => rfl) (fun _ => rfl) (fun f cdv A outer s H a Q E hr h => ?_)
  obtain ⟨b, t⟩ := a
  obtain ⟨hb, h1, h2, q⟩ := h
  refine ⟨_, pss_one (ps_ret (pe_dn (dn_word_at_T T) hr (by rfl) (pa_cons (pv 0) pa_nil))), ?_⟩
  exact ⟨_, rfl, (b, t), rfl, SqT.of hb, h1, h2, q⟩
def spTermAt : Sp := spG (fun n : Nat => [vn n]) fun n H Q => n < 2 ^ 64 ∧ ∀ H' p, Same H H' → TmAt H' p (bits n) → Q (.ref p) H'
theorem dn_term_at (T : Txt K mg) : Dn P w K mg base "term_at" 2 ["place"] spTermAt := by
  refine dnG (N := ["place"]) T.d_term_at sc_term_at (fun f fd F => FunD.bindsN (ps := ["place"]) F fun _ _ _ _ _ _ us hl => match us, hl with | [_], _ => rfl) (fun _ => rfl) (fun f cdv A outer s H a Q E hr h => ?_)
  obtain ⟨h1, q⟩ := h
  refine ⟨_, pss_one (ps_ret (pe_dn (dn_where T) hr (by rfl) (pa_cons (pv 0) pa_nil))), ?_⟩
  exact ⟨_, rfl, a, rfl, h1, q⟩
theorem TermOk.small {m : Nat} {t : List Nat} (h : TermOk m t) (hm : m ≤ 6) : (∀ q ∈ t, q ≤ 100000) ∧ t.length ≤ 1000 := ⟨fun q hq => by have := h.2 q hq; omega, by have := h.len; omega⟩
def spValue : Sp := spG (fun a : Nat × Addr × List (List Nat) × Nat => [.ref a.2.1, vn a.2.2.2]) fun a H Q => a.1 ≤ 6 ∧ PoAt H a.2.1 a.2.2.1 ∧ (∀ t ∈ a.2.2.1, TermOk a.1 t) ∧ a.2.2.1.length ≤ 1000 ∧ ∀ H', Same H H' → Q (vn (pval a.2.2.1 a.2.2.2).toNat) H'
theorem taken_len {P : List (List Nat)} {g : List Nat → Bool} : ∀ {os : List (Option V)}, os.length = P.length → (∀ (i : Nat) (o : Option V), os[i]? = some o → ∃ t, P[i]? = some t ∧ o.isSome = g t) → (os.filterMap id).length = (P.filter g).length := by
  induction P with
  | nil =>
    intro os h _
    rw [List.eq_nil_of_length_eq_zero h]
    rfl
  | cons t P ih =>
    intro os h f
    cases os with
    | nil => simp at h
    | cons o os =>
      obtain ⟨t', e1, e2⟩ := f 0 o rfl
      obtain rfl : t = t' := Option.some.inj e1
      have r := ih (os := os) (by simpa using h) fun i o' h' => f (i + 1) o' (by simpa using h')
      rw [List.filterMap_cons, List.filter_cons]
      cases o with
      | none =>
        rw [← e2]
        simpa using r
      | some v =>
        rw [← e2]
        simpa using r
/-- over a tuple, with a test -/
theorem lcTt {K : PySem.W.Frag} {a : Addr} {xs : List V} {g : TG} {tt : TT} {te : TE} {vs : List Nat} {σ : L2.St} {H1 : Hp} {D : Addr} {Qd : Hp → Prop} (hS : SqT K H1 a xs) (R : Hp → Nat → Option V → Prop) (nD : H1 D = none) (hn : xs.length ≤ 100000) (mono : ∀ H H' i o, Tups H H' → R H i o → R H' i o)
    (hs : ∀ i H x (Qy : VK) (Qn : Hp → Prop), xs[i]? = some x → Same H1 H → (∀ y H4, Same H H4 → R H4 i (some y) → Qy y H4) → (∀ H3, Same H H3 → R H3 i none → Qn H3) →
      g x (wipe σ vs) H fun σ2 H2 => wipe σ2 vs = wipe σ vs ∧ tt σ2 H2 fun b H3 => if b = true then te σ2 H3 Qy else Qn H3)
    (hd : ∀ H (os : List (Option V)), Same H1 H → os.length = xs.length → (∀ i o, os[i]? = some o → R H i o) → H D = some (.lst (os.filterMap id)) → Qd H) : LcRun (Itt K a) g tt te vs σ H1 D Qd :=
  lc_go R nD hn mono (goT hS).1 (goT hS).2.1 (fun i H x H' Qy Qn hi sm hy h1 h2 => by
    obtain ⟨e, hx⟩ := (goT hS).2.2 i H x H' sm hy
    subst e
    exact hs i _ x Qy Qn hx sm h1 h2) hd
theorem dn_value (T : Txt K mg) : Dn P w K mg base "value" 3 ["poly", "place"] spValue := by
  refine dnG (N := ["poly", "place", "term"]) T.d_value sc_value (fun f fd F => FunD.bindsN (ps := ["poly", "place"]) F fun _ _ _ _ _ _ us hl => match us, hl with | [_, _], _ => rfl) (fun _ => rfl) (fun f cdv A outer s H a Q E hr h => ?_)
  obtain ⟨m, b, P, p⟩ := a
  obtain ⟨hm, ⟨bs, e0, hbs⟩, ok, hl, q⟩ := h
  have hl : P.length ≤ 1000 := hl
  have hm : m ≤ 6 := hm
  have ok : ∀ t ∈ P, TermOk m t := ok
  have e0 : H b = some (.tup (bs.map .ref)) := e0
  have hbs : TmsAt H bs P := hbs
  have ll := paired_len hbs
  refine ⟨_, pss_one (ps_ret (pe_op modN (pe_callB call_len_seq (by rfl) T.n_len (by decide +kernel) (pa_cons (pe_lc (own := [("term", 2)]) (by rfl) sc_value.nd (pi_tup (pv 0)) (blkOk_by (N := ["poly", "place", "term"]) (sc := defScope s_value) (by decide +kernel)) (fun _ _ _ _ _ => pg_name (i := 2) sc_value.nd rfl (.inl rfl))
        (fun _ _ _ _ _ => pts_one (pt_cmpR eqN (pe_op andN (pe_dn (dn_place_of T) hr (by rfl) (pa_cons (pv 2) pa_nil)) (pv 1)) (pe_dn (dn_place_of T) hr (by rfl) (pa_cons (pv 2) pa_nil)) (nomark _)))
        (fun _ _ _ _ _ => pv 2)) pa_nil)) pe_int)), ?_⟩
  refine ⟨_, rfl, b, rfl, ⟨_, SqT.of e0⟩, fun D nD => lcTt (SqT.of e0) (fun _ i o => ∃ t : List Nat, P[i]? = some t ∧ o.isSome = bel (wat t) p) nD (by rw [List.length_map]; omega) (fun _ _ _ _ _ z => z) (fun i H1 x Qy Qn hx sm k1 k2 => ?_) (fun H1 os sm hlen hR hD => ?_)⟩
  · obtain ⟨c, u, _, e1, rfl, hc⟩ := po_get hbs hx
    obtain ⟨s1, s2⟩ := (ok u (List.mem_of_getElem? e1)).small hm
    refine ⟨rfl, _, rfl, (c, u), rfl, hc.same sm, s1, s2, fun H2 t2 => ?_⟩
    refine ⟨_, rfl, wat u, p, rfl, rfl, _, rfl, (c, u), rfl, (hc.same sm).same t2, s1, s2, fun H3 t3 => ?_⟩
    refine ⟨_, _, rfl, rfl, _, rfl, ?_⟩
    have t23 := Same.trans t2 t3
    by_cases hb : wat u &&& p = wat u
    · rw [decide_eq_true hb]
      refine iteT ⟨_, rfl, k1 _ _ t23 ⟨u, e1, ?_⟩⟩
      unfold bel
      rw [beq_iff_eq.mpr hb]
      rfl
    · rw [decide_eq_false hb]
      refine iteF (k2 _ t23 ⟨u, e1, ?_⟩)
      unfold bel
      rw [beq_eq_false_iff_ne.mpr hb]
      rfl
  · refine ⟨D, _, rfl, .inl (SqL.of hD), _, 2, rfl, rfl, Nat.zero_lt_two, ?_⟩
    have e : (os.filterMap id).length % 2 = (pval P p).toNat := by
      rw [taken_len (g := fun t => bel (wat t) p) (by rw [hlen, List.length_map]; exact ll) hR]
      unfold pval
      rw [xs_count]
      rcases Nat.mod_two_eq_zero_or_one (P.filter fun t => bel (wat t) p).length with z | z
      · rw [z]; rfl
      · rw [z]; rfl
    show Q (vn ((os.filterMap id).length % 2)) H1
    rw [e]
    exact q _ sm
def spWordOf : Sp := spG (fun a : Nat × Addr × List (List Nat) => [vn a.1, .ref a.2.1]) fun a H Q => a.1 ≤ 6 ∧ PoAt H a.2.1 a.2.2 ∧ PolyOk a.1 a.2.2 ∧ ∀ H', Same H H' → Q (vn (wordOf a.1 a.2.2)) H'
theorem nums_are {l : List Nat} {ys : List V} (h : ys.length = l.length) (f : ∀ (i : Nat) (y : V), ys[i]? = some y → ∃ n : Nat, l[i]? = some n ∧ y = vn n) : ys = vns l := by
  refine List.ext_getElem? fun i => ?_
  rw [List.getElem?_map]
  rcases Nat.lt_or_ge i ys.length with hi | hi
  · obtain ⟨q, h1, h2⟩ := f i _ (List.getElem?_eq_getElem hi)
    rw [List.getElem?_eq_getElem hi, h1, h2]
    rfl
  · rw [List.getElem?_eq_none hi, List.getElem?_eq_none (by omega)]
    rfl
theorem dn_word_of (T : Txt K mg) : Dn P w K mg base "word_of" 4 ["many", "poly"] spWordOf := by
  refine dnG (N := ["many", "poly", "term"]) T.d_word_of sc_word_of (fun f fd F => FunD.bindsN (ps := ["many", "poly"]) F fun _ _ _ _ _ _ us hl => match us, hl with | [_, _], _ => rfl) (fun _ => rfl) (fun f cdv A outer s H a Q E hr h => ?_)
  obtain ⟨m, b, P⟩ := a
  obtain ⟨hm, ⟨bs, e0, hbs⟩, ok, q⟩ := h
  have hm : m ≤ 6 := hm
  have ok : PolyOk m P := ok
  have e0 : H b = some (.tup (bs.map .ref)) := e0
  have hbs : TmsAt H bs P := hbs
  have ll := paired_len hbs
  have hl := polyOk_len hm ok
  refine ⟨_, pss_one (ps_ret (pe_ix ix_tup (pe_dn (dn_steps T) hr (by rfl) (pa_cons (pv 0) (pa_cons (pe_dn (dn_word_at_L T) (hr.mono (by decide)) (by rfl) (pa_cons (pe_lc (own := [("term", 2)]) (by rfl) sc_word_of.nd (pi_tup (pv 1)) (blkOk_by (N := ["many", "poly", "term"]) (sc := defScope s_word_of) (by decide +kernel)) (fun _ _ _ _ _ => pg_name (i := 2) sc_word_of.nd rfl (.inl rfl)) (fun _ _ _ _ _ => pts_nil)
        (fun _ _ _ _ _ => pe_dn (dn_place_of T) (hr.mono (by decide)) (by rfl) (pa_cons (pv 2) pa_nil))) pa_nil)) pa_nil))) (pe_un un_neg pe_int) (fun _ _ => rfl))), ?_⟩
  refine ⟨_, rfl, _, rfl, b, rfl, ⟨_, SqT.of e0⟩, fun D nD => lcT (SqT.of e0) (fun _ i y => ∃ n : Nat, (pls P)[i]? = some n ∧ y = vn n) nD (by rw [List.length_map]; omega) (fun _ _ _ _ _ z => z) (fun i H1 x Qy hx sm k => ?_) (fun H1 ys sm hlen hR hD => ?_) (gName_mono 2)⟩
  · obtain ⟨c, u, _, e1, rfl, hc⟩ := po_get hbs hx
    obtain ⟨s1, s2⟩ := (ok.2 u (List.mem_of_getElem? e1)).small hm
    refine ⟨rfl, _, rfl, (c, u), rfl, hc.same sm, s1, s2, fun H2 t2 => k _ _ t2 ⟨wat u, ?_, rfl⟩⟩
    rw [List.getElem?_map, e1]
    rfl
  · have e := nums_are (l := pls P) (by rw [hlen, List.length_map, List.length_map]; exact ll) hR
    subst e
    refine ⟨(D, pls P), rfl, SqL.of hD, fun z hz => ?_, ?_, fun H2 s2 => ?_⟩
    · have := ok.pls_lt z hz
      have := pow_le64 hm
      omega
    · show (pls P).length ≤ 1000
      rw [List.length_map]
      omega
    refine ⟨(m, wat (pls P)), rfl, hm, ok.wat_lt hm, fun H3 p s3 hp => ?_⟩
    refine ⟨1, rfl, p, _, _, _, rfl, rfl, SqT.of hp, vns_last _ m, ?_⟩
    exact q _ (Same.trans (Same.trans sm s2) s3)
def spPolyOf : Sp := spG (fun a : Nat × Nat => [vn a.1, vn a.2]) fun a H Q => a.1 ≤ 6 ∧ a.2 < 2 ^ 2 ^ a.1 ∧ ∀ H' p, Same H H' → PoAt H' p (polyOf a.1 a.2) → Q (.ref p) H'
theorem bits_len (n : Nat) : (bits n).length ≤ 64 := by
  have := List.length_filter_le n.testBit (List.range 64)
  rw [List.length_range] at this
  exact this
theorem dn_poly_of (T : Txt K mg) : Dn P w K mg base "poly_of" 5 ["many", "word"] spPolyOf := by
  refine dnG (N := ["many", "word", "place"]) T.d_poly_of sc_poly_of (fun f fd F => FunD.bindsN (ps := ["many", "word"]) F fun _ _ _ _ _ _ us hl => match us, hl with | [_, _], _ => rfl) (fun _ => rfl) (fun f cdv A outer s H a Q E hr h => ?_)
  obtain ⟨m, n⟩ := a
  obtain ⟨hm, hw, q⟩ := h
  have hm : m ≤ 6 := hm
  have hw : n < 2 ^ 2 ^ m := hw
  have hz := zeta_lt hm hw
  refine ⟨_, pss_one (ps_ret (pe_dn (dn_in_order T) hr (by rfl) (pa_cons (pe_lc (own := [("place", 2)]) (by rfl) sc_poly_of.nd (pi_tup (pe_dn (dn_where T) (hr.mono (by decide)) (by rfl) (pa_cons (pe_ix ix_tup (pe_dn (dn_steps T) (hr.mono (by decide)) (by rfl) (pa_cons (pv 0) (pa_cons (pv 1) pa_nil))) (pe_un un_neg pe_int) (fun _ _ => rfl)) pa_nil))) (blkOk_by (N := ["many", "word", "place"]) (sc := defScope s_poly_of) (by decide +kernel)) (fun _ _ _ _ _ => pg_name (i := 2) sc_poly_of.nd rfl (.inl rfl)) (fun _ _ _ _ _ => pts_nil)
        (fun _ _ _ _ _ => pe_dn (dn_term_at T) (hr.mono (by decide)) (by rfl) (pa_cons (pv 2) pa_nil))) pa_nil))), ?_⟩
  refine ⟨_, rfl, _, rfl, (m, n), rfl, hm, hw, fun H1 p1 s1 hp1 => ?_⟩
  refine ⟨1, rfl, p1, _, _, _, rfl, rfl, SqT.of hp1, vns_last _ m, zeta m n, rfl, two64 hm hz, fun H2 p2 s2 hp2 => ?_⟩
  have bl := bits_len (zeta m n)
  refine ⟨p2, rfl, ⟨_, SqT.of hp2⟩, fun D nD => lcT (SqT.of hp2) (fun Hh i y => ∃ b t, ((bits (zeta m n)).map bits)[i]? = some t ∧ y = .ref b ∧ TmAt Hh b t) nD (by rw [List.length_map]; omega) (fun _ _ _ _ tp ⟨b, t, z1, z2, z3⟩ => ⟨b, t, z1, z2, z3.tups tp⟩) (fun i H3 x Qy hx sm k => ?_) (fun H3 ys sm hlen hR hD => ?_) (gName_mono 2)⟩
  · obtain ⟨c, e1, rfl⟩ := vns_get hx
    have hc := List.mem_of_getElem? e1
    refine ⟨rfl, _, rfl, c, rfl, bits64 c hc, fun H4 p4 s4 hp4 => k _ _ s4 ⟨p4, bits c, ?_, rfl, hp4⟩⟩
    rw [List.getElem?_map, e1]
    rfl
  · obtain ⟨bs, e, hbs⟩ := terms_are (ts := (bits (zeta m n)).map bits) (by rw [hlen, List.length_map, List.length_map]) hR
    subst e
    refine ⟨(D, bs, (bits (zeta m n)).map bits), rfl, SqL.of hD, hbs, ?_, fun t ht => ?_, fun H4 p4 s4 hp4 => q _ p4 (Same.trans (Same.trans (Same.trans s1 s2) sm) s4) hp4⟩
    · show ((bits (zeta m n)).map bits).length ≤ 1000
      rw [List.length_map]
      omega
    · obtain ⟨c, _, rfl⟩ := List.mem_map.mp ht
      have := bits_len c
      omega
end
end YN
set_option Elab.async false
set_option linter.all false
set_option maxRecDepth 100000
set_option maxHeartbeats 4000000
namespace YN
open PySem PySem.Spec PyProof.Rows L2
/-! ### the tally of terms -/
def tkey (t : List Nat) : List Key := t.map fun n : Nat => Sum.inl (n : Int)
theorem tkey_kV (t : List Nat) : (tkey t).map kV = vns t := by
  unfold tkey
  rw [List.map_map]
  rfl
theorem tkey_inj : ∀ {t u : List Nat}, tkey t = tkey u → t = u
  | [], [], _ => rfl
  | [], _ :: _, h => by cases h
  | _ :: _, [], h => by cases h
  | a :: t, b :: u, h => by
    have h1 := List.cons.inj h
    have e : (a : Int) = (b : Int) := Sum.inl.inj h1.1
    rw [tkey_inj h1.2, show a = b by omega]
theorem TmAt.key {H : Hp} {b : Addr} {t : List Nat} (h : TmAt H b t) : H b = some (.tup ((tkey t).map kV)) := by
  rw [tkey_kV]
  exact h
def tally (keys : List (List Nat)) (c : List Nat → Nat) : List (List Key × V) := keys.map fun t => (tkey t, vn (c t))
theorem tally_val (c : List Nat → Nat) (t : List Nat) : ∀ keys : List (List Nat), valV (tally keys c) (tkey t) = if t ∈ keys then some (vn (c t)) else none
  | [] => by simp [tally, valV]
  | u :: keys => by
    have ih := tally_val c t keys
    show valV ((tkey u, vn (c u)) :: tally keys c) (tkey t) = _
    by_cases e : u = t
    · subst e
      rw [valV_pos rfl, if_pos List.mem_cons_self]
    · rw [valV_neg (fun z => e (tkey_inj z)), ih]
      by_cases h : t ∈ keys
      · rw [if_pos h, if_pos (List.mem_cons_of_mem _ h)]
      · rw [if_neg h, if_neg (fun z => (List.mem_cons.mp z).elim (fun q => e q.symm) h)]
theorem tally_put {keys : List (List Nat)} {c c' : List Nat → Nat} {t : List Nat} (hc : ∀ u, u ≠ t → c' u = c u) : putK (tally keys c) (tkey t) (vn (c' t)) = tally (if t ∈ keys then keys else keys ++ [t]) c' := by
  have hv := tally_val c t keys
  by_cases h : t ∈ keys
  · rw [if_pos h] at hv
    rw [if_pos h]
    unfold putK
    rw [valV_any, hv, Option.isSome_some, if_pos rfl]
    unfold tally
    rw [List.map_map]
    refine List.map_congr_left fun u _ => ?_
    show (if tkey u = tkey t then (tkey u, vn (c' t)) else (tkey u, vn (c u))) = _
    by_cases e : u = t
    · subst e
      rw [if_pos rfl]
    · rw [if_neg (fun z => e (tkey_inj z)), hc u e]
  · rw [if_neg h] at hv
    rw [if_neg h, putK_new _ hv]
    unfold tally
    rw [List.map_append]
    congr 1
    refine List.map_congr_left fun u hu => ?_
    rw [hc u (fun z => h (z ▸ hu))]
theorem count_next {L : List (List Nat)} {i : Nat} {t : List Nat} (h : L[i]? = some t) (u : List Nat) : (L.take (i + 1)).count u = (L.take i).count u + if u = t then 1 else 0 := by
  rw [List.take_add_one, h, List.count_append]
  congr 1
  by_cases e : u = t
  · subst e
    simp
  · rw [if_neg e]
    exact List.count_eq_zero_of_not_mem fun z => e (by simpa using z)
/-- the terms that a comprehension over the tally takes -/
theorem odd_are {H : Hp} {g : List Nat → Bool} : ∀ {os : List (Option V)} {keys : List (List Nat)}, os.length = keys.length → (∀ (i : Nat) (o : Option V), os[i]? = some o → ∃ t, keys[i]? = some t ∧ ((g t = true ∧ ∃ b, o = some (.ref b) ∧ TmAt H b t) ∨ (g t = false ∧ o = none))) →
    ∃ bs : List Addr, os.filterMap id = bs.map .ref ∧ TmsAt H bs (keys.filter g)
  | [], [], _, _ => ⟨[], rfl, .nil⟩
  | [], _ :: _, h, _ => by simp at h
  | _ :: _, [], h, _ => by simp at h
  | o :: os, t :: keys, hl, h => by
    obtain ⟨t', e1, e2⟩ := h 0 o rfl
    obtain rfl : t = t' := Option.some.inj e1
    obtain ⟨bs, e4, r⟩ := odd_are (os := os) (keys := keys) (by simpa using hl) fun i o' h' => h (i + 1) o' (by simpa using h')
    rcases e2 with ⟨hg, b, rfl, hb⟩ | ⟨hg, rfl⟩
    · refine ⟨b :: bs, ?_, ?_⟩
      · rw [List.filterMap_cons, e4]; rfl
      · rw [List.filter_cons, hg]; exact .cons hb r
    · refine ⟨bs, ?_, ?_⟩
      · rw [List.filterMap_cons, e4]; rfl
      · rw [List.filter_cons, hg]; exact r
theorem oddOf_keys {L keys : List (List Nat)} (nd : keys.Nodup) (hk : ∀ t ∈ L, t ∈ keys) : OddOf L (srt (keys.filter fun t => decide (L.count t % 2 = 1))) := by
  refine ⟨srt_rise (nd.sublist List.filter_sublist), fun t => ?_⟩
  rw [(srt_perm _).mem_iff, List.mem_filter, decide_eq_true_iff]
  refine ⟨fun z => z.2, fun z => ⟨hk t (List.count_pos_iff.mp (by omega)), z⟩⟩
/-- over the keys of a locked dict whose keys are tuples, with a test -/
theorem lcK {d : Addr} {od : Obj} {kvs : List (List Key × V)} {g : TG} {tt : TT} {te : TE} {vs : List Nat} {σ : L2.St} {H1 : Hp} {D : Addr} {Qd : Hp → Prop} (hd1 : H1 d = some (.frz od (.dT kvs))) (R : Hp → Nat → Option V → Prop) (nD : H1 D = none) (hn : kvs.length ≤ 100000) (mono : ∀ H H' i o, Tups H H' → R H i o → R H' i o)
    (hs : ∀ i H k v q (Qy : VK) (Qn : Hp → Prop), kvs[i]? = some (k, v) → H q = some (.tup (k.map kV)) → Same H1 H → (∀ y H4, Same H H4 → R H4 i (some y) → Qy y H4) → (∀ H3, Same H H3 → R H3 i none → Qn H3) →
      g (.ref q) (wipe σ vs) H fun σ2 H2 => wipe σ2 vs = wipe σ vs ∧ tt σ2 H2 fun b H3 => if b = true then te σ2 H3 Qy else Qn H3)
    (hd : ∀ H (os : List (Option V)), Same H1 H → os.length = kvs.length → (∀ i o, os[i]? = some o → R H i o) → H D = some (.lst (os.filterMap id)) → Qd H) : LcRun (Itkt d od kvs) g tt te vs σ H1 D Qd :=
  lc_go R nD hn mono (fun i H hi sm => ⟨sm _ _ hd1, hi⟩) (fun H sm => ⟨sm _ _ hd1, Nat.le_refl _⟩) (fun i H x H' Qy Qn hi sm hy h1 h2 => by
    obtain ⟨rfl, k, v, q, e1, rfl, e2⟩ := hy
    exact hs i _ k v q Qy Qn e1 e2 sm h1 h2) hd
section
variable {P : Program} {w : World} {K : PySem.W.Frag} {mg : Str → Option Value} {base : Heap}
/-- what the tally holds behind i terms -/
def TallyAt (H : Hp) (d : Addr) (L : List (List Nat)) (i : Nat) : Prop := ∃ keys : List (List Nat), H d = some (.dT (tally keys fun t => (L.take i).count t)) ∧ keys.Nodup ∧ (∀ t ∈ L.take i, t ∈ keys) ∧ (∀ t ∈ keys, t ∈ L) ∧ keys.length ≤ i
theorem tally_step {H : Hp} {d : Addr} {L keys : List (List Nat)} {i : Nat} {t : List Nat} (nd : keys.Nodup) (h1 : ∀ t ∈ L.take i, t ∈ keys) (h2 : ∀ t ∈ keys, t ∈ L) (h3 : keys.length ≤ i) (ht : L[i]? = some t) : TallyAt (upd H d (.dT (putK (tally keys fun t => (L.take i).count t) (tkey t) (vn ((L.take i).count t + 1))))) d L (i + 1) := by
  have e' := tally_put (keys := keys) (t := t) (c := fun t => (L.take i).count t) (c' := fun t => (L.take (i + 1)).count t) (fun u hu => by
    show (L.take (i + 1)).count u = (L.take i).count u
    rw [count_next ht, if_neg hu]; rfl)
  have e2 : (L.take (i + 1)).count t = (L.take i).count t + 1 := by rw [count_next ht, if_pos rfl]
  rw [e2] at e'
  rw [e']
  refine ⟨if t ∈ keys then keys else keys ++ [t], upd_same, ?_, fun u hu => ?_, fun u hu => ?_, ?_⟩
  · split
    · exact nd
    · rename_i hn
      rw [List.nodup_append]
      exact ⟨nd, by simp, fun a ha b hb => by
        rw [List.mem_singleton.mp hb]
        exact fun z => hn (z ▸ ha)⟩
  · have hu' : u ∈ L.take i ∨ u = t := by
      rw [List.take_add_one, ht] at hu
      simpa using hu
    split
    · rename_i hm
      exact hu'.elim (h1 u) fun z => z ▸ hm
    · exact List.mem_append.mpr (hu'.elim (fun z => .inl (h1 u z)) fun z => .inr (by simp [z]))
  · split at hu
    · exact h2 u hu
    · rcases List.mem_append.mp hu with z | z
      · exact h2 u z
      · rw [List.mem_singleton.mp z]
        exact List.mem_of_getElem? ht
  · split
    · omega
    · rw [List.length_append, List.length_singleton]
      omega
theorem tally_get {H : Hp} {d b : Addr} {L : List (List Nat)} {i : Nat} {t : List Nat} (h : TallyAt H d L i) (ht : L[i]? = some t) (hb : TmAt H b t) : IsD H d ∧ ∃ o, DGet H d (.ref b) o ∧ o.getD (vn 0) = vn ((L.take i).count t) := by
  obtain ⟨keys, e, nd, h1, h2, h3⟩ := h
  refine ⟨.inr ⟨_, .inl e⟩, _, DGet.t e hb.key, ?_⟩
  rw [tally_val]
  by_cases hm : t ∈ keys
  · rw [if_pos hm]
    rfl
  · rw [if_neg hm]
    have z : (L.take i).count t = 0 := List.count_eq_zero_of_not_mem fun z => hm (h1 t z)
    rw [z]
    rfl
theorem tally_upd {H : Hp} {d p : Addr} {o : HO} {L : List (List Nat)} {i : Nat} (h : TallyAt H d L i) (np : p ≠ d) : TallyAt (upd H p o) d L i := by
  obtain ⟨keys, e, r⟩ := h
  exact ⟨keys, by rw [upd_ne (Ne.symm np)]; exact e, r⟩
def spOddL (K : PySem.W.Frag) : Sp := spG (fun a : Addr × List Addr × List (List Nat) => [.ref a.1]) fun a H Q => SqL K H a.1 (a.2.1.map .ref) ∧ TmsAt H a.2.1 a.2.2 ∧ a.2.2.length ≤ 1000 ∧ (∀ t ∈ a.2.2, t.length ≤ 1000) ∧ ∀ H' p R, Same H H' → OddOf a.2.2 R → PoAt H' p R → Q (.ref p) H'
def spOddT (K : PySem.W.Frag) : Sp := spG (fun a : Addr × List Addr × List (List Nat) => [.ref a.1]) fun a H Q => SqT K H a.1 (a.2.1.map .ref) ∧ TmsAt H a.2.1 a.2.2 ∧ a.2.2.length ≤ 1000 ∧ (∀ t ∈ a.2.2, t.length ≤ 1000) ∧ ∀ H' p R, Same H H' → OddOf a.2.2 R → PoAt H' p R → Q (.ref p) H'
theorem dn_odd_ones_T (T : Txt K mg) : Dn P w K mg base "odd_ones" 5 ["some"] (spOddT K) := by
  refine dnG (N := ["some", "times_met", "term"]) T.d_odd_ones sc_odd_ones (fun f fd F => FunD.bindsN (ps := ["some"]) F fun _ _ _ _ _ _ us hl => match us, hl with | [_], _ => rfl) (fun _ => rfl) (fun f cdv A outer s H a Q E hr h => ?_)
  obtain ⟨b, bs, L⟩ := a
  obtain ⟨hS, hbs, hl, ht, q⟩ := h
  have hl : L.length ≤ 1000 := hl
  have hbs : TmsAt H bs L := hbs
  have ll := paired_len hbs
  have hu := hr.units
  refine ⟨_, pss_cons (ps_set (i := 1) sc_odd_ones.nd rfl (.inr rfl) pe_dnewT)
    (pss_cons (ps_for PassesOwn.never rfl (pi_tup (pv 0)) (pg_name (i := 2) sc_odd_ones.nd rfl (.inl rfl))
      (pss_one (ps_dput (hu_of hr) (pv 1) (pv 2) (pe_op addN (pe_dget2 (hu_of hr) (pv 1) (pv 2) pe_int ⟨rfl, rfl, rfl, rfl⟩) pe_int) rfl)))
    (pss_one (ps_ret (pe_dn (dn_in_order T) hr (by rfl) (pa_cons (pe_lock (pe_lc (own := [("term", 2)]) (by rfl) sc_odd_ones.nd (pi_keys (pv 1)) (blkOk_by (N := ["some", "times_met", "term"]) (sc := defScope s_odd_ones) (by decide +kernel)) (fun _ _ _ _ _ => pg_name (i := 2) sc_odd_ones.nd rfl (.inl rfl))
      (fun _ _ _ _ _ => pts_one (pt_cmpR eqN (pe_op modN (pe_dget (hu_of hr) (pv 1) (pv 2) (fun _ _ => rfl)) pe_int) pe_int (nomark _))) (fun _ _ _ _ _ => pv 2))) pa_nil))))), ?_⟩
  intro d nd
  have s0 : Same H (upd H d (.dT [])) := same_new nd
  have hS : SqT K H b (bs.map .ref) := hS
  have s0S := same_st s0 hS
  refine ⟨_, rfl, b, rfl, ⟨_, s0S⟩, for_tup (K := K) (a := b) (xs := bs.map .ref) (fun i σ H2 => ∃ y, σ = [some (.ref b), some (.ref d), y] ∧ Same H H2 ∧ TallyAt H2 d L i)
    ⟨none, rfl, s0, [], by rw [upd_same]; rfl, List.nodup_nil, by simp, by simp, by simp⟩ (fun i σ H2 _ ⟨_, _, s2, _⟩ => same_st s2 hS) ?_ ?_⟩
  · rintro i x σ H2 hx ⟨y, rfl, s2, tl⟩
    obtain ⟨c, t, _, e1, rfl, hc⟩ := po_get hbs hx
    have hc2 := hc.same s2
    have hi : i < L.length := (List.getElem?_eq_some_iff.mp e1).1
    obtain ⟨isd, o, g1, g2⟩ := tally_get tl e1 hc2
    obtain ⟨keys, e, nd2, h1, h2, h3⟩ := tl
    refine ⟨_, rfl, d, rfl, isd, _, rfl, o, g1, _, 1, g2, rfl, _, rfl, _, rfl, d, upd H2 d (.dT (putK (tally keys fun t => (L.take i).count t) (tkey t) (vn ((L.take i).count t + 1)))), rfl, DPut.t e hc2.key (by unfold tally; rw [List.length_map]; exact szlt (by omega)), _, rfl, same_mut s2 nd, ?_⟩
    exact tally_step nd2 h1 h2 h3 e1
  · rintro σ H2 ⟨y, rfl, s2, tl⟩
    rw [List.length_map, ll] at tl
    obtain ⟨keys, e, nd2, h1, h2, h3⟩ := tl
    rw [List.take_length] at e h1
    refine ⟨d, _, e, trivial, fun od => ?_⟩
    have s3 : Tups H (upd H2 d (.frz od (.dT (tally keys fun t => L.count t)))) := fun b' xs e' => by
      rw [upd_ne (ne_of_none e' nd)]
      exact s2 _ _ e'
    refine ⟨_, rfl, d, od, rfl, .inr ⟨_, upd_same, fun D nD => lcK upd_same (fun Hh i o => ∃ t, keys[i]? = some t ∧ ((decide (L.count t % 2 = 1) = true ∧ ∃ b, o = some (.ref b) ∧ TmAt Hh b t) ∨ (decide (L.count t % 2 = 1) = false ∧ o = none))) nD (by unfold tally; rw [List.length_map]; omega)
      (fun Ha Hb i o tp ⟨t, z1, z2⟩ => ⟨t, z1, z2.imp (fun ⟨z3, b', z4, z5⟩ => ⟨z3, b', z4, z5.tups tp⟩) id⟩) (fun i H3 k v c Qy Qn hk hq sm k1 k2 => ?_) (fun H3 os sm hlen hR hD => ?_)⟩⟩
    · have hk' : ∃ t, keys[i]? = some t ∧ k = tkey t ∧ v = vn (L.count t) := by
        unfold tally at hk
        rw [List.getElem?_map] at hk
        cases z : keys[i]? with
        | none => rw [z] at hk; cases hk
        | some t => rw [z] at hk; cases hk; exact ⟨t, rfl, rfl, rfl⟩
      obtain ⟨t, z1, rfl, rfl⟩ := hk'
      have hd3 := sm _ _ upd_same
      have hc3 : TmAt H3 c t := by
        rw [tkey_kV] at hq
        exact hq
      have tm := List.mem_of_getElem? z1
      have gv : DGet H3 d (.ref c) (some (vn (L.count t))) := .inr ⟨_, tkey t, c, .inr ⟨od, hd3⟩, rfl, hc3.key, by rw [tally_val, if_pos tm]⟩
      refine ⟨rfl, _, rfl, _, rfl, d, _, rfl, gv, _, 2, rfl, rfl, Nat.zero_lt_two, _, 1, rfl, rfl, _, rfl, ?_⟩
      by_cases ho : L.count t % 2 = 1
      · rw [decide_eq_true ho]
        exact iteT ⟨_, rfl, k1 _ _ (Same.refl _) ⟨t, z1, .inl ⟨decide_eq_true ho, c, rfl, hc3⟩⟩⟩
      · rw [decide_eq_false ho]
        exact iteF (k2 _ (Same.refl _) ⟨t, z1, .inr ⟨decide_eq_false ho, rfl⟩⟩)
    · obtain ⟨cs, e5, hcs⟩ := odd_are (g := fun t => decide (L.count t % 2 = 1)) (by rw [hlen]; unfold tally; rw [List.length_map]) hR
      have hd3 := sm _ _ upd_same
      rw [e5] at hD
      have nDd : D ≠ d := ne_of hD hd3 (by intro z; cases z)
      have s6 : Same H (upd H3 d (.dT (tally keys fun t => L.count t))) := fun b' o e' => by
        have nb := ne_of_none e' nd
        rw [upd_ne nb]
        refine sm _ _ ?_
        rw [upd_ne nb]
        exact s2 _ _ e'
      have t6 : TmsAt (upd H3 d (.dT (tally keys fun t => L.count t))) cs (keys.filter fun t => decide (L.count t % 2 = 1)) := paired_imp hcs fun b' t' h' => by
        have h' : H3 b' = some (.tup (vns t')) := h'
        show upd H3 d _ b' = _
        rw [upd_ne (ne_of h' hd3 (by intro z; cases z))]
        exact h'
      refine ⟨hd3, (D, cs, keys.filter fun t => decide (L.count t % 2 = 1)), rfl, ?_, t6, ?_, fun t ht' => ?_, fun H7 p s7 hp => q H7 p _ (Same.trans s6 s7) (oddOf_keys nd2 h1) hp⟩
      · refine SqL.of ?_
        rw [upd_ne nDd]
        exact hD
      · have := List.length_filter_le (fun t => decide (L.count t % 2 = 1)) keys
        show (keys.filter fun t => decide (L.count t % 2 = 1)).length ≤ 1000
        omega
      · exact ht t (h2 t (List.mem_filter.mp ht').1)
theorem dn_odd_ones_L (T : Txt K mg) : Dn P w K mg base "odd_ones" 5 ["some"] (spOddL K) := by
  refine dnG (N := ["some", "times_met", "term"]) T.d_odd_ones sc_odd_ones (fun f fd F => FunD.bindsN (ps := ["some"]) F fun _ _ _ _ _ _ us hl => match us, hl with | [_], _ => rfl) (fun _ => rfl) (fun f cdv A outer s H a Q E hr h => ?_)
  obtain ⟨b, bs, L⟩ := a
  obtain ⟨hS, hbs, hl, ht, q⟩ := h
  have hl : L.length ≤ 1000 := hl
  have hbs : TmsAt H bs L := hbs
  have ll := paired_len hbs
  have hu := hr.units
  refine ⟨_, pss_cons (ps_set (i := 1) sc_odd_ones.nd rfl (.inr rfl) pe_dnewT)
    (pss_cons (ps_for PassesOwn.never rfl (pi_list (pv 0)) (pg_name (i := 2) sc_odd_ones.nd rfl (.inl rfl))
      (pss_one (ps_dput (hu_of hr) (pv 1) (pv 2) (pe_op addN (pe_dget2 (hu_of hr) (pv 1) (pv 2) pe_int ⟨rfl, rfl, rfl, rfl⟩) pe_int) rfl)))
    (pss_one (ps_ret (pe_dn (dn_in_order T) hr (by rfl) (pa_cons (pe_lock (pe_lc (own := [("term", 2)]) (by rfl) sc_odd_ones.nd (pi_keys (pv 1)) (blkOk_by (N := ["some", "times_met", "term"]) (sc := defScope s_odd_ones) (by decide +kernel)) (fun _ _ _ _ _ => pg_name (i := 2) sc_odd_ones.nd rfl (.inl rfl))
      (fun _ _ _ _ _ => pts_one (pt_cmpR eqN (pe_op modN (pe_dget (hu_of hr) (pv 1) (pv 2) (fun _ _ => rfl)) pe_int) pe_int (nomark _))) (fun _ _ _ _ _ => pv 2))) pa_nil))))), ?_⟩
  intro d nd
  have s0 : Same H (upd H d (.dT [])) := same_new nd
  have hS : SqL K H b (bs.map .ref) := hS
  have s0S := same_sq s0 hS
  refine ⟨_, rfl, b, rfl, ⟨_, s0S⟩, for_list (K := K) (a := b) (xs := bs.map .ref) (fun i σ H2 => ∃ y, σ = [some (.ref b), some (.ref d), y] ∧ Same H H2 ∧ TallyAt H2 d L i)
    ⟨none, rfl, s0, [], by rw [upd_same]; rfl, List.nodup_nil, by simp, by simp, by simp⟩ (fun i σ H2 _ ⟨_, _, s2, _⟩ => same_sq s2 hS) ?_ ?_⟩
  · rintro i x σ H2 hx ⟨y, rfl, s2, tl⟩
    obtain ⟨c, t, _, e1, rfl, hc⟩ := po_get hbs hx
    have hc2 := hc.same s2
    have hi : i < L.length := (List.getElem?_eq_some_iff.mp e1).1
    obtain ⟨isd, o, g1, g2⟩ := tally_get tl e1 hc2
    obtain ⟨keys, e, nd2, h1, h2, h3⟩ := tl
    refine ⟨_, rfl, d, rfl, isd, _, rfl, o, g1, _, 1, g2, rfl, _, rfl, _, rfl, d, upd H2 d (.dT (putK (tally keys fun t => (L.take i).count t) (tkey t) (vn ((L.take i).count t + 1)))), rfl, DPut.t e hc2.key (by unfold tally; rw [List.length_map]; exact szlt (by omega)), _, rfl, same_mut s2 nd, ?_⟩
    exact tally_step nd2 h1 h2 h3 e1
  · rintro σ H2 ⟨y, rfl, s2, tl⟩
    rw [List.length_map, ll] at tl
    obtain ⟨keys, e, nd2, h1, h2, h3⟩ := tl
    rw [List.take_length] at e h1
    refine ⟨d, _, e, trivial, fun od => ?_⟩
    have s3 : Tups H (upd H2 d (.frz od (.dT (tally keys fun t => L.count t)))) := fun b' xs e' => by
      rw [upd_ne (ne_of_none e' nd)]
      exact s2 _ _ e'
    refine ⟨_, rfl, d, od, rfl, .inr ⟨_, upd_same, fun D nD => lcK upd_same (fun Hh i o => ∃ t, keys[i]? = some t ∧ ((decide (L.count t % 2 = 1) = true ∧ ∃ b, o = some (.ref b) ∧ TmAt Hh b t) ∨ (decide (L.count t % 2 = 1) = false ∧ o = none))) nD (by unfold tally; rw [List.length_map]; omega)
      (fun Ha Hb i o tp ⟨t, z1, z2⟩ => ⟨t, z1, z2.imp (fun ⟨z3, b', z4, z5⟩ => ⟨z3, b', z4, z5.tups tp⟩) id⟩) (fun i H3 k v c Qy Qn hk hq sm k1 k2 => ?_) (fun H3 os sm hlen hR hD => ?_)⟩⟩
    · have hk' : ∃ t, keys[i]? = some t ∧ k = tkey t ∧ v = vn (L.count t) := by
        unfold tally at hk
        rw [List.getElem?_map] at hk
        cases z : keys[i]? with
        | none => rw [z] at hk; cases hk
        | some t => rw [z] at hk; cases hk; exact ⟨t, rfl, rfl, rfl⟩
      obtain ⟨t, z1, rfl, rfl⟩ := hk'
      have hd3 := sm _ _ upd_same
      have hc3 : TmAt H3 c t := by
        rw [tkey_kV] at hq
        exact hq
      have tm := List.mem_of_getElem? z1
      have gv : DGet H3 d (.ref c) (some (vn (L.count t))) := .inr ⟨_, tkey t, c, .inr ⟨od, hd3⟩, rfl, hc3.key, by rw [tally_val, if_pos tm]⟩
      refine ⟨rfl, _, rfl, _, rfl, d, _, rfl, gv, _, 2, rfl, rfl, Nat.zero_lt_two, _, 1, rfl, rfl, _, rfl, ?_⟩
      by_cases ho : L.count t % 2 = 1
      · rw [decide_eq_true ho]
        exact iteT ⟨_, rfl, k1 _ _ (Same.refl _) ⟨t, z1, .inl ⟨decide_eq_true ho, c, rfl, hc3⟩⟩⟩
      · rw [decide_eq_false ho]
        exact iteF (k2 _ (Same.refl _) ⟨t, z1, .inr ⟨decide_eq_false ho, rfl⟩⟩)
    · obtain ⟨cs, e5, hcs⟩ := odd_are (g := fun t => decide (L.count t % 2 = 1)) (by rw [hlen]; unfold tally; rw [List.length_map]) hR
      have hd3 := sm _ _ upd_same
      rw [e5] at hD
      have nDd : D ≠ d := ne_of hD hd3 (by intro z; cases z)
      have s6 : Same H (upd H3 d (.dT (tally keys fun t => L.count t))) := fun b' o e' => by
        have nb := ne_of_none e' nd
        rw [upd_ne nb]
        refine sm _ _ ?_
        rw [upd_ne nb]
        exact s2 _ _ e'
      have t6 : TmsAt (upd H3 d (.dT (tally keys fun t => L.count t))) cs (keys.filter fun t => decide (L.count t % 2 = 1)) := paired_imp hcs fun b' t' h' => by
        have h' : H3 b' = some (.tup (vns t')) := h'
        show upd H3 d _ b' = _
        rw [upd_ne (ne_of h' hd3 (by intro z; cases z))]
        exact h'
      refine ⟨hd3, (D, cs, keys.filter fun t => decide (L.count t % 2 = 1)), rfl, ?_, t6, ?_, fun t ht' => ?_, fun H7 p s7 hp => q H7 p _ (Same.trans s6 s7) (oddOf_keys nd2 h1) hp⟩
      · refine SqL.of ?_
        rw [upd_ne nDd]
        exact hD
      · have := List.length_filter_le (fun t => decide (L.count t % 2 = 1)) keys
        show (keys.filter fun t => decide (L.count t % 2 = 1)).length ≤ 1000
        omega
      · exact ht t (h2 t (List.mem_filter.mp ht').1)
end
end YN
set_option Elab.async false
set_option linter.all false
set_option maxRecDepth 100000
set_option maxHeartbeats 4000000
namespace YN
open PySem PySem.Spec PyProof.Rows L2
section
variable {P : Program} {w : World} {K : PySem.W.Frag} {mg : Str → Option Value} {base : Heap}
theorem map_ref_nil {bs : List Addr} {xs : List V} (e : xs = bs.map .ref) (h : xs = []) : bs = [] := by
  rw [h] at e
  exact List.map_eq_nil_iff.mp e.symm
theorem tms_nil {H : Hp} {ts : List (List Nat)} (h : TmsAt H [] ts) : ts = [] := by
  cases h
  rfl
/-- one tuple of terms behind the other -/
theorem po_cat {H : Hp} {a b : Addr} {P R : List (List Nat)} {Q : VK} (h1 : PoAt H a P) (h2 : PoAt H b R) (hl : P.length + R.length ≤ 1000) (k : ∀ p H1, Same H H1 → PoAt H1 p (P ++ R) → Q (.ref p) H1) : rCatA K (.ref a) (.ref b) H Q := by
  have h1' := h1
  have h2' := h2
  obtain ⟨bs, e1, t1⟩ := h1
  obtain ⟨cs, e2, t2⟩ := h2
  have l1 := paired_len t1
  have l2 := paired_len t2
  refine ⟨a, b, _, _, rfl, rfl, SqT.of e1, SqT.of e2, ?_, fun z => ?_, fun _ z => ?_, fun _ _ p np => ?_⟩
  · rw [List.length_map, List.length_map]
    exact szl (by omega)
  · have z := map_ref_nil rfl z
    subst z
    have e := tms_nil t1
    subst e
    exact k _ _ (Same.refl _) h2'
  · have z := map_ref_nil rfl z
    subst z
    have e := tms_nil t2
    subst e
    refine k _ _ (Same.refl _) ?_
    rw [List.append_nil]
    exact h1'
  · have s := same_new (o := .tup (bs.map .ref ++ cs.map .ref)) np
    refine k _ _ s ⟨bs ++ cs, ?_, paired_app (t1.same s) (t2.same s)⟩
    rw [upd_same, List.map_append]
def spPolySum : Sp := spG (fun a : Nat × Addr × List (List Nat) × Addr × List (List Nat) => [.ref a.2.1, .ref a.2.2.2.1]) fun a H Q => a.1 ≤ 6 ∧ PoAt H a.2.1 a.2.2.1 ∧ PoAt H a.2.2.2.1 a.2.2.2.2 ∧ PolyOk a.1 a.2.2.1 ∧ PolyOk a.1 a.2.2.2.2 ∧ ∀ H' p R, Same H H' → OddOf (a.2.2.1 ++ a.2.2.2.2) R → PoAt H' p R → Q (.ref p) H'
theorem dn_poly_sum (T : Txt K mg) : Dn P w K mg base "poly_sum" 6 ["one", "other"] spPolySum := by
  refine dnG (N := ["one", "other"]) T.d_poly_sum sc_poly_sum (fun f fd F => FunD.bindsN (ps := ["one", "other"]) F fun _ _ _ _ _ _ us hl => match us, hl with | [_, _], _ => rfl) (fun _ => rfl) (fun f cdv A outer s H a Q E hr h => ?_)
  obtain ⟨m, a, P, b, R⟩ := a
  obtain ⟨hm, ha, hb, ok1, ok2, q⟩ := h
  have hm : m ≤ 6 := hm
  have ha : PoAt H a P := ha
  have hb : PoAt H b R := hb
  have ok1 : PolyOk m P := ok1
  have ok2 : PolyOk m R := ok2
  have l1 := polyOk_len hm ok1
  have l2 := polyOk_len hm ok2
  refine ⟨_, pss_one (ps_ret (pe_dn (dn_odd_ones_T T) hr (by rfl) (pa_cons (pe_op op_catA (pv 0) (pv 1)) pa_nil))), ?_⟩
  refine ⟨_, rfl, _, rfl, ?_⟩
  show rCatA K (.ref a) (.ref b) H _
  refine po_cat ha hb (by omega) fun p H1 s1 hp => ?_
  obtain ⟨bs, e, hbs⟩ := hp
  refine ⟨(p, bs, P ++ R), rfl, SqT.of e, hbs, ?_, fun t ht => ?_, fun H' p' R' s2 ho hp' => q H' p' R' (Same.trans s1 s2) ho hp'⟩
  · show (P ++ R).length ≤ 1000
    rw [List.length_append]
    omega
  · have : TermOk m t := (List.mem_append.mp ht).elim (ok1.2 t) (ok2.2 t)
    exact (this.small hm).2
theorem prods_next {P R : List (List Nat)} {i : Nat} {t : List Nat} (h : P[i]? = some t) : prods (P.take (i + 1)) R = prods (P.take i) R ++ R.map fun u => bits (wat t ||| wat u) := by
  unfold prods
  rw [List.take_add_one, h, List.flatMap_append]
  congr 1
  simp
theorem prods_len (R : List (List Nat)) : ∀ P : List (List Nat), (prods P R).length = P.length * R.length
  | [] => by simp [prods]
  | t :: P => by
    have ih := prods_len R P
    have e : prods (t :: P) R = (R.map fun u => bits (wat t ||| wat u)) ++ prods P R := by simp [prods]
    rw [e, List.length_append, List.length_map, ih, List.length_cons, Nat.succ_mul, Nat.add_comm]
def spPolyProduct : Sp := spG (fun a : Nat × Addr × List (List Nat) × Addr × List (List Nat) => [.ref a.2.1, .ref a.2.2.2.1]) fun a H Q => a.1 ≤ 6 ∧ PoAt H a.2.1 a.2.2.1 ∧ PoAt H a.2.2.2.1 a.2.2.2.2 ∧ PolyOk a.1 a.2.2.1 ∧ PolyOk a.1 a.2.2.2.2 ∧ (a.2.2.1.length ≤ 16 ∧ a.2.2.2.2.length ≤ 16) ∧ ∀ H' p R, Same H H' → OddOf (prods a.2.2.1 a.2.2.2.2) R → PoAt H' p R → Q (.ref p) H'
theorem dn_poly_product (T : Txt K mg) : Dn P w K mg base "poly_product" 6 ["one", "other"] spPolyProduct := by
  refine dnG (N := ["one", "other", "found", "term", "more"]) T.d_poly_product sc_poly_product (fun f fd F => FunD.bindsN (ps := ["one", "other"]) F fun _ _ _ _ _ _ us hl => match us, hl with | [_, _], _ => rfl) (fun _ => rfl) (fun f cdv A outer s H a Q E hr h => ?_)
  obtain ⟨m, a, P, b, R⟩ := a
  obtain ⟨hm, ⟨bs, ea, ta⟩, ⟨cs, eb, tb⟩, ok1, ok2, ⟨l1, l2⟩, q⟩ := h
  have hm : m ≤ 6 := hm
  have ea : H a = some (.tup (bs.map .ref)) := ea
  have eb : H b = some (.tup (cs.map .ref)) := eb
  have ta : TmsAt H bs P := ta
  have tb : TmsAt H cs R := tb
  have ok1 : PolyOk m P := ok1
  have ok2 : PolyOk m R := ok2
  have l1 : P.length ≤ 16 := l1
  have l2 : R.length ≤ 16 := l2
  have q : ∀ H' p R', Same H H' → OddOf (prods P R) R' → PoAt H' p R' → Q (.ref p) H' := q
  have la := paired_len ta
  have lb := paired_len tb
  refine ⟨_, pss_cons (ps_set (i := 2) sc_poly_product.nd rfl (.inl rfl) (pe_lst pa_nil))
    (pss_cons (ps_for PassesOwn.never rfl (pi_tup (pv 0)) (pg_name (i := 3) sc_poly_product.nd rfl (.inr rfl))
      (pss_one (ps_expr (pe_bm PySem.F.plainAttrs_list PySem.F.slot_list_extend PySem.F.type_list_extend mt_extend (pv 2) (pa_cons (pe_lc (own := [("more", 4)]) (by rfl) sc_poly_product.nd (pi_tup (pv 1)) (blkOk_by (N := ["one", "other", "found", "term", "more"]) (sc := defScope s_poly_product) (by decide +kernel)) (fun _ _ _ _ _ => pg_name (i := 4) sc_poly_product.nd rfl (.inl rfl)) (fun _ _ _ _ _ => pts_nil)
        (fun _ _ _ _ _ => pe_dn (dn_term_at T) (hr.mono (by decide)) (by rfl) (pa_cons (pe_op orN (pe_dn (dn_place_of T) (hr.mono (by decide)) (by rfl) (pa_cons (pv 3) pa_nil)) (pe_dn (dn_place_of T) (hr.mono (by decide)) (by rfl) (pa_cons (pv 4) pa_nil))) pa_nil))) pa_nil)))))
    (pss_one (ps_ret (pe_dn (dn_odd_ones_L T) hr (by rfl) (pa_cons (pv 2) pa_nil))))), ?_⟩
  refine ⟨Nat.zero_le _, fun o no => ?_⟩
  have s0 : Same H (upd H o (.lst [])) := same_new no
  refine ⟨_, rfl, a, rfl, ⟨_, same_t s0 ea⟩, for_tup (K := K) (a := a) (xs := bs.map .ref) (fun i σ H2 => ∃ y z, σ = [some (.ref a), some (.ref b), some (.ref o), y, z] ∧ Same H H2 ∧ ∃ ds, H2 o = some (.lst (ds.map .ref)) ∧ TmsAt H2 ds (prods (P.take i) R))
    ⟨none, none, rfl, s0, [], upd_same, .nil⟩ (fun i σ H2 _ ⟨_, _, _, s2, _⟩ => same_t s2 ea) ?_ ?_⟩
  · rintro i x σ H2 hx ⟨y, z, rfl, s2, ds, hds, tds⟩
    obtain ⟨c, t, _, e1, rfl, hc⟩ := po_get ta hx
    have hi : i < P.length := (List.getElem?_eq_some_iff.mp e1).1
    obtain ⟨t1, t2⟩ := (ok1.2 t (List.mem_of_getElem? e1)).small hm
    have hc2 := hc.same s2
    have eb2 := s2 _ _ eb
    have tb2 := tb.same s2
    refine ⟨_, rfl, .inl ⟨rfl, _, SqL.of hds⟩, _, rfl, b, rfl, ⟨_, SqT.of eb2⟩, fun D nD => lcT (SqT.of eb2) (fun Hh j y => ∃ p u, (R.map fun u => bits (wat t ||| wat u))[j]? = some u ∧ y = .ref p ∧ TmAt Hh p u) nD (by rw [List.length_map]; omega) (fun _ _ _ _ tp ⟨p, u, z1, z2, z3⟩ => ⟨p, u, z1, z2, z3.tups tp⟩) (fun j H3 x Qy hx sm k => ?_) (fun H3 ys sm hlen hR hD => ?_) (gName_mono 4)⟩
    · obtain ⟨c', u, _, e2, rfl, hc'⟩ := po_get tb2 hx
      have oku := ok2.2 u (List.mem_of_getElem? e2)
      have okt := ok1.2 t (List.mem_of_getElem? e1)
      obtain ⟨u1, u2⟩ := oku.small hm
      refine ⟨rfl, _, rfl, (c, t), rfl, hc2.same sm, t1, t2, fun H4 s4 => ?_⟩
      refine ⟨_, rfl, (c', u), rfl, (hc'.same sm).same s4, u1, u2, fun H5 s5 => ?_⟩
      refine ⟨_, _, rfl, rfl, wat t ||| wat u, rfl, two64' hm (Nat.or_lt_two_pow okt.lt oku.lt), fun H6 p s6 hp => k _ _ (Same.trans (Same.trans s4 s5) s6) ⟨p, _, ?_, rfl, hp⟩⟩
      rw [List.getElem?_map, e2]
      rfl
    · obtain ⟨es, e, hes⟩ := terms_are (ts := R.map fun u => bits (wat t ||| wat u)) (by rw [hlen, List.length_map, List.length_map]; exact lb) hR
      subst e
      have hds3 := sm _ _ hds
      have l3 := paired_len tds
      have l4 := paired_len hes
      have l5 := prods_len R (P.take i)
      have tp : Tups H3 (upd H3 o (.lst (ds.map .ref ++ es.map .ref))) := tups_upd hds3
      refine ⟨o, D, _, _, rfl, rfl, hds3, hD, ?_, _, _, rfl, same_mut (Same.trans s2 sm) no, ds ++ es, ?_, ?_⟩
      · rw [List.length_map] at l4
        rw [List.length_map, List.length_map, l3, l4, l5, List.length_take]
        refine szl ?_
        have : min i P.length * R.length ≤ 16 * 16 := Nat.mul_le_mul (by omega) l2
        omega
      · rw [upd_same, List.map_append]
      · rw [prods_next e1]
        exact paired_app ((tds.same sm).tups tp) (hes.tups tp)
  · rintro σ H2 ⟨y, z, rfl, s2, ds, hds, tds⟩
    rw [List.length_map, la, List.take_length] at tds
    refine ⟨_, rfl, (o, ds, prods P R), rfl, SqL.of hds, tds, ?_, fun t ht => ?_, fun H' p R' s3 ho hp => q H' p R' (Same.trans s2 s3) ho hp⟩
    · show (prods P R).length ≤ 1000
      rw [prods_len]
      have : P.length * R.length ≤ 16 * 16 := Nat.mul_le_mul l1 l2
      omega
    · exact ((prods_ok ok1.2 ok2.2 t ht).small hm).2
end
end YN
set_option Elab.async false
set_option linter.all false
set_option maxRecDepth 100000
set_option maxHeartbeats 4000000
namespace YN
open PySem PySem.Spec PyProof.Rows L2
theorem sc_law_take : FnScope ["_law_state", "_law_count", "_law_digit", "_law_mixed"] ["_law_state", "_law_count"] (defScope s_law_take) := ⟨rfl, rfl, rfl, by decide +kernel, rfl, by decide +kernel, by decide +kernel⟩
theorem sc_law_many : FnScope ["_law_state"] ["_law_state"] (defScope s_law_many) := ⟨rfl, rfl, rfl, by decide +kernel, rfl, by decide +kernel, by decide +kernel⟩
theorem sc_law_bits : FnScope ["_law_state", "_law_count", "_law_way", "_law_found", "_law_k", "_law_one"] ["_law_state", "_law_count"] (defScope s_law_bits) := ⟨rfl, rfl, rfl, by decide +kernel, rfl, by decide +kernel, by decide +kernel⟩
theorem sc_law_word : FnScope ["_law_bits_here", "_law_found", "_law_bit"] ["_law_bits_here"] (defScope s_law_word) := ⟨rfl, rfl, rfl, by decide +kernel, rfl, by decide +kernel, by decide +kernel⟩
/-- all but the object at c stays -/
def Keep (c : Addr) (H H' : Hp) : Prop := ∀ b o, b ≠ c → H b = some o → H' b = some o
theorem Keep.refl (c : Addr) (H : Hp) : Keep c H H := fun _ _ _ h => h
theorem Keep.trans {c : Addr} {H H1 H2 : Hp} (a : Keep c H H1) (b : Keep c H1 H2) : Keep c H H2 := fun d o n h => b d o n (a d o n h)
theorem Keep.of {c : Addr} {H H' : Hp} (s : Same H H') : Keep c H H' := fun b o _ h => s b o h
theorem keep_upd {c : Addr} {H : Hp} {o : HO} : Keep c H (upd H c o) := fun b o' n h => by
  rw [upd_ne n]
  exact h
theorem Keep.tups {c : Addr} {H H' : Hp} {xs : List V} (h : Keep c H H') (hc : H c = some (.lst xs)) : Tups H H' := fun b ys e => h b _ (ne_of e hc (by intro z; cases z)) e
/-- the state of the hand: three numbers that are not negative, the count of turns at most n -/
def StAt (H : Hp) (c : Addr) (n : Nat) : Prop := ∃ x y z : Nat, H c = some (.lst [vn x, vn y, vn z]) ∧ z ≤ n
theorem StAt.mono {H : Hp} {c : Addr} {n m : Nat} (h : StAt H c n) (l : n ≤ m) : StAt H c m := by
  obtain ⟨x, y, z, e, hz⟩ := h
  exact ⟨x, y, z, e, by omega⟩
theorem StAt.same {H H' : Hp} {c : Addr} {n : Nat} (s : Same H H') (h : StAt H c n) : StAt H' c n := by
  obtain ⟨x, y, z, e, hz⟩ := h
  exact ⟨x, y, z, s _ _ e, hz⟩
theorem StAt.tups {H H' : Hp} {c : Addr} {n : Nat} (h : StAt H c n) (k : Keep c H H') : Tups H H' := by
  obtain ⟨x, y, z, e, hz⟩ := h
  exact k.tups e
section
variable {P : Program} {w : World} {K : PySem.W.Frag} {mg : Str → Option Value} {base : Heap}
theorem modN_gen {x y : V} (n m : Nat) {H : Hp} {Q : VK} (ex : x = vn n) (ey : y = vn m) (hm : 0 < m) (k : ∀ r, r < m → Q (vn r) H) : rN (fun _ m => 0 < m) (fun n m => vn (n % m)) x y H Q := ⟨n, m, ex, ey, hm, k _ (Nat.mod_lt _ hm)⟩
def spTake : Sp := spG (fun a : Addr × Nat × Nat => [.ref a.1, vn a.2.1]) fun a H Q => StAt H a.1 a.2.2 ∧ (1 ≤ a.2.1 ∧ a.2.1 ≤ 1000) ∧ a.2.2 ≤ 1000000 ∧ ∀ H' r, Keep a.1 H H' → StAt H' a.1 (a.2.2 + 1) → r < a.2.1 → Q (vn r) H'
theorem dn_law_take (T : Txt K mg) : Dn P w K mg base "_law_take" 1 ["_law_state", "_law_count"] spTake := by
  refine dnG (N := ["_law_state", "_law_count", "_law_digit", "_law_mixed"]) T.d_law_take sc_law_take (fun f fd F => FunD.bindsN (ps := ["_law_state", "_law_count"]) F fun _ _ _ _ _ _ us hl => match us, hl with | [_, _], _ => rfl) (fun _ => rfl) (fun f cdv A outer s H a Q E hr h => ?_)
  obtain ⟨c, m, n⟩ := a
  obtain ⟨⟨x, y, z, e, hz⟩, ⟨hm, hm2⟩, hn, q⟩ := h
  have e : H c = some (.lst [vn x, vn y, vn z]) := e
  have hz : z ≤ n := hz
  have hm : 1 ≤ m := hm
  have hm2 : m ≤ 1000 := hm2
  have hn : n ≤ 1000000 := hn
  have q : ∀ H' r, Keep c H H' → StAt H' c (n + 1) → r < m → Q (vn r) H' := q
  refine ⟨_, pss_cons (ps_if (pt_cmpR gtN (pe_ix ix_list (pv 0) pe_int (fun _ _ => rfl)) pe_int (nomark _))
      (pss_cons (ps_set (i := 2) sc_law_take.nd rfl (.inl rfl) (pe_op modN (pe_ix ix_list (pv 0) pe_int (fun _ _ => rfl)) (pv 1)))
      (pss_cons (ps_asg (pe_op divN (pe_ix ix_list (pv 0) pe_int (fun _ _ => rfl)) (pv 1)) (pg_sub (pv 0) pe_int set_list))
      (pss_one (ps_ret (pv 2))))) pss_nil)
    (pss_cons (ps_asg (pe_op addN (pe_ix ix_list (pv 0) pe_int (fun _ _ => rfl)) pe_int) (pg_sub (pv 0) pe_int set_list))
    (pss_cons (ps_set (i := 3) sc_law_take.nd rfl (.inl rfl) (pe_op modN (pe_op mulN (pe_op addN (pe_op addN (pe_ix ix_list (pv 0) pe_int (fun _ _ => rfl)) (pe_op mulN (pe_op mulN pe_int (pe_ix ix_list (pv 0) pe_int (fun _ _ => rfl))) (pe_ix ix_list (pv 0) pe_int (fun _ _ => rfl)))) pe_int) pe_int) pe_int))
    (pss_cons (ps_set (i := 3) sc_law_take.nd rfl (.inl rfl) (pe_op modN (pe_op mulN (pv 3) (pe_op addN (pe_op modN (pv 3) pe_int) (pe_op mulN pe_int (pe_ix ix_list (pv 0) pe_int (fun _ _ => rfl))))) pe_int))
    (pss_one (ps_ret (pe_op modN (pe_op addN (pe_op divN (pv 3) pe_int) (pe_op divN (pv 3) pe_int)) (pv 1))))))), ?_⟩
  have e0 : SqL K H c [vn x, vn y, vn z] := SqL.of e
  refine ⟨_, rfl, c, _, _, _, rfl, rfl, e0, rfl, x, 0, rfl, rfl, _, rfl, ?_⟩
  by_cases hx : 0 < x
  · rw [decide_eq_true hx]
    refine iteT ⟨_, rfl, c, _, _, _, rfl, rfl, e0, rfl, _, rfl, x, m, rfl, rfl, by omega, ?_⟩
    refine ⟨_, rfl, c, _, _, _, rfl, rfl, e0, rfl, _, rfl, x, m, rfl, rfl, ⟨by omega, by omega⟩, ?_⟩
    refine ⟨_, rfl, c, _, 0, 0, rfl, rfl, e, rfl, ?_⟩
    refine ⟨_, rfl, q _ (x % m) keep_upd ⟨x / m, y, z, upd_same, by omega⟩ (Nat.mod_lt _ hm)⟩
  · rw [decide_eq_false hx]
    refine iteF ?_
    refine ⟨_, rfl, c, _, _, _, rfl, rfl, e0, rfl, z, 1, rfl, rfl, ?_⟩
    refine ⟨_, rfl, c, _, 2, 2, rfl, rfl, e, rfl, ?_⟩
    have e1 : upd H c (.lst ([vn x, vn y, vn z].set 2 (vn (z + 1)))) c = some (.lst [vn x, vn y, vn (z + 1)]) := upd_same
    have e2 : SqL K (upd H c (.lst ([vn x, vn y, vn z].set 2 (vn (z + 1))))) c [vn x, vn y, vn (z + 1)] := SqL.of e1
    refine ⟨_, rfl, c, _, _, _, rfl, rfl, e2, rfl, ?_⟩
    refine ⟨_, rfl, c, _, _, _, rfl, rfl, e2, rfl, ?_⟩
    refine ⟨65537, z + 1, rfl, rfl, .inl (by omega), ?_⟩
    refine ⟨_, rfl, c, _, _, _, rfl, rfl, e2, rfl, ?_⟩
    refine ⟨65537 * (z + 1), z + 1, rfl, rfl, .inr (by omega), ?_⟩
    refine ⟨y, _, rfl, rfl, _, 11, rfl, rfl, _, 48271, rfl, rfl, .inr (by omega), ?_⟩
    delta tC
    dsimp only
    refine modN_gen _ 2305843009213693921 rfl rfl (by omega) fun w1 hw1 => ?_
    refine ⟨_, rfl, _, rfl, w1, 1000003, rfl, rfl, by omega, ?_⟩
    refine ⟨_, rfl, c, _, _, _, rfl, rfl, e2, rfl, ?_⟩
    refine ⟨99991, z + 1, rfl, rfl, .inl (by omega), ?_⟩
    refine ⟨_, _, rfl, rfl, w1, _, rfl, rfl, .inl (by omega), ?_⟩
    dsimp only
    refine modN_gen _ 2305843009213693907 rfl rfl (by omega) fun w2 hw2 => ?_
    refine ⟨_, rfl, w2, 97, rfl, rfl, ⟨by omega, by omega⟩, ?_⟩
    refine ⟨_, rfl, w2, 1000033, rfl, rfl, ⟨by omega, by omega⟩, ?_⟩
    refine ⟨_, _, rfl, rfl, _, rfl, _, m, rfl, rfl, by omega, ?_⟩
    exact q _ _ keep_upd ⟨x, y, z + 1, e1, by omega⟩ (Nat.mod_lt _ hm)
theorem keep_new {c : Addr} {H H1 : Hp} {p : Addr} {o : HO} (k : Keep c (upd H p o) H1) (np : H p = none) : Keep c H H1 := (Keep.of (same_new np)).trans k
def spMany : Sp := spG (fun a : Addr × Nat => [.ref a.1]) fun a H Q => StAt H a.1 a.2 ∧ a.2 ≤ 1000000 ∧ ∀ H' m, Keep a.1 H H' → StAt H' a.1 (a.2 + 1) → 1 ≤ m → m ≤ 6 → Q (vn m) H'
theorem many_of (r : Nat) (h : r < 8) : ∃ m : Nat, 1 ≤ m ∧ m ≤ 6 ∧ atI [vn 1, vn 2, vn 3, vn 4, vn 5, vn 6, vn 3, vn 4] (r : Int) = some (vn m) := by
  match r, h with
  | 0, _ => exact ⟨1, by omega, by omega, rfl⟩
  | 1, _ => exact ⟨2, by omega, by omega, rfl⟩
  | 2, _ => exact ⟨3, by omega, by omega, rfl⟩
  | 3, _ => exact ⟨4, by omega, by omega, rfl⟩
  | 4, _ => exact ⟨5, by omega, by omega, rfl⟩
  | 5, _ => exact ⟨6, by omega, by omega, rfl⟩
  | 6, _ => exact ⟨3, by omega, by omega, rfl⟩
  | 7, _ => exact ⟨4, by omega, by omega, rfl⟩
theorem dn_law_many (T : Txt K mg) : Dn P w K mg base "_law_many" 2 ["_law_state"] spMany := by
  refine dnG (N := ["_law_state"]) T.d_law_many sc_law_many (fun f fd F => FunD.bindsN (ps := ["_law_state"]) F fun _ _ _ _ _ _ us hl => match us, hl with | [_], _ => rfl) (fun _ => rfl) (fun f cdv A outer s H a Q E hr h => ?_)
  obtain ⟨c, n⟩ := a
  obtain ⟨hs, hn, q⟩ := h
  have hs : StAt H c n := hs
  have hn : n ≤ 1000000 := hn
  have q : ∀ H' m, Keep c H H' → StAt H' c (n + 1) → 1 ≤ m → m ≤ 6 → Q (vn m) H' := q
  refine ⟨_, pss_one (ps_ret (pe_ix ix_list (pe_lst (pa_cons pe_int (pa_cons pe_int (pa_cons pe_int (pa_cons pe_int (pa_cons pe_int (pa_cons pe_int (pa_cons pe_int (pa_cons pe_int pa_nil)))))))))
      (pe_dn (dn_law_take T) hr (by rfl) (pa_cons (pv 0) (pa_cons pe_int pa_nil))) (fun _ _ => rfl))), ?_⟩
  refine ⟨szl (Nat.le_of_ble_eq_true rfl), fun o no => ?_⟩
  have s0 : Same H (upd H o (.lst [vn 1, vn 2, vn 3, vn 4, vn 5, vn 6, vn 3, vn 4])) := same_new no
  refine ⟨_, rfl, (c, 8, n), rfl, hs.same s0, ⟨Nat.le_of_ble_eq_true rfl, Nat.le_of_ble_eq_true rfl⟩, hn, fun H1 r k1 st1 hr1 => ?_⟩
  obtain ⟨m, m1, m6, em⟩ := many_of r hr1
  have noc : o ≠ c := by
    obtain ⟨x, y, z, e, _⟩ := hs
    exact fun z => by rw [z, e] at no; cases no
  refine ⟨o, _, _, _, rfl, rfl, SqL.of (k1 _ _ noc upd_same), em, ?_⟩
  exact q H1 m (keep_new k1 no) st1 m1 m6
theorem keep_mut {c : Addr} {H H' : Hp} {p : Addr} {o : HO} (k : Keep c H H') (np : H p = none) : Keep c H (upd H' p o) := fun b o' n h => by
  rw [upd_ne (ne_of_none h np)]
  exact k _ _ n h
theorem StAt.upd {H : Hp} {c p : Addr} {n : Nat} {o : HO} (h : StAt H c n) (np : p ≠ c) : StAt (upd H p o) c n := by
  obtain ⟨x, y, z, e, hz⟩ := h
  exact ⟨x, y, z, by rw [upd_ne (Ne.symm np)]; exact e, hz⟩
theorem way_of {way : Nat} (h : way < 3) : ∃ m : Nat, 1 ≤ m ∧ m ≤ 5 ∧ (way = 0 → m = 2) ∧ atI [vn 2, vn 5, vn 5] (way : Int) = some (vn m) := by
  match way, h with
  | 0, _ => exact ⟨2, by omega, by omega, fun _ => rfl, rfl⟩
  | 1, _ => exact ⟨5, by omega, by omega, fun z => by omega, rfl⟩
  | 2, _ => exact ⟨5, by omega, by omega, fun z => by omega, rfl⟩
theorem bit_of {way one : Nat} (h : way < 3) (h0 : way = 0 → one ≤ 1) : ∃ b : Nat, b ≤ 1 ∧ atI [vn one, .int (if decide (one = 0) = true then 1 else 0), .int (if decide (0 < one) = true then 1 else 0)] (way : Int) = some (vn b) := by
  match way, h with
  | 0, _ => exact ⟨one, h0 rfl, rfl⟩
  | 1, _ =>
    by_cases h1 : one = 0
    · exact ⟨1, by omega, by rw [decide_eq_true h1]; rfl⟩
    · exact ⟨0, by omega, by rw [decide_eq_false h1]; rfl⟩
  | 2, _ =>
    by_cases h1 : 0 < one
    · exact ⟨1, by omega, by rw [decide_eq_true h1]; rfl⟩
    · exact ⟨0, by omega, by rw [decide_eq_false h1]; rfl⟩
def spBits : Sp := spG (fun a : Addr × Nat × Nat => [.ref a.1, vn a.2.1]) fun a H Q => StAt H a.1 a.2.2 ∧ a.2.1 ≤ 64 ∧ a.2.2 ≤ 900000 ∧ ∀ H' p bs, Keep a.1 H H' → StAt H' a.1 (a.2.2 + 66) → H' p = some (.lst (vns bs)) → bs.length = a.2.1 → (∀ b ∈ bs, b ≤ 1) → Q (.ref p) H'
theorem dn_law_bits (T : Txt K mg) : Dn P w K mg base "_law_bits" 2 ["_law_state", "_law_count"] spBits := by
  refine dnG (N := ["_law_state", "_law_count", "_law_way", "_law_found", "_law_k", "_law_one"]) T.d_law_bits sc_law_bits (fun f fd F => FunD.bindsN (ps := ["_law_state", "_law_count"]) F fun _ _ _ _ _ _ us hl => match us, hl with | [_, _], _ => rfl) (fun _ => rfl) (fun f cdv A outer s H a Q E hr h => ?_)
  obtain ⟨c, m, n⟩ := a
  obtain ⟨hs, hm, hn, q⟩ := h
  have hs : StAt H c n := hs
  have hm : m ≤ 64 := hm
  have hn : n ≤ 900000 := hn
  have q : ∀ H' p bs, Keep c H H' → StAt H' c (n + 66) → H' p = some (.lst (vns bs)) → bs.length = m → (∀ b ∈ bs, b ≤ 1) → Q (.ref p) H' := q
  refine ⟨_, pss_cons (ps_set (i := 2) sc_law_bits.nd rfl (.inl rfl) (pe_dn (dn_law_take T) hr (by rfl) (pa_cons (pv 0) (pa_cons pe_int pa_nil))))
    (pss_cons (ps_if (pt_cmpR eqN (pv 2) pe_int (nomark _)) (pss_one (ps_ret (pe_op op_rep (pe_lst (pa_cons (pe_dn (dn_law_take T) hr (by rfl) (pa_cons (pv 0) (pa_cons pe_int pa_nil))) pa_nil)) (pv 1)))) pss_nil)
    (pss_cons (ps_set (i := 3) sc_law_bits.nd rfl (.inl rfl) (pe_lst pa_nil))
    (pss_cons (ps_for PassesOwn.never rfl (pi_range1 (by rfl) T.n_range (pa_cons (pv 1) pa_nil)) (pg_name (i := 4) sc_law_bits.nd rfl (.inl rfl))
      (pss_cons (ps_set (i := 5) sc_law_bits.nd rfl (.inl rfl) (pe_dn (dn_law_take T) hr (by rfl) (pa_cons (pv 0) (pa_cons (pe_ix ix_list (pe_lst (pa_cons pe_int (pa_cons pe_int (pa_cons pe_int pa_nil)))) (pv 2) (fun _ _ => rfl)) pa_nil))))
      (pss_one (ps_expr (pe_bm PySem.F.plainAttrs_list PySem.F.slot_list_append PySem.F.type_list_append mt_append (pv 3) (pa_cons (pe_ix ix_list (pe_lst (pa_cons (pv 5) (pa_cons (pe_callTy call_int1 (by rfl) T.n_int (by decide +kernel) (pa_cons (pe_cmpR eqN (pv 5) pe_int (nomark _)) pa_nil)) (pa_cons (pe_callTy call_int1 (by rfl) T.n_int (by decide +kernel) (pa_cons (pe_cmpR gtN (pv 5) pe_int (nomark _)) pa_nil)) pa_nil)))) (pv 2) (fun _ _ => rfl)) pa_nil))))))
    (pss_one (ps_ret (pv 3)))))), ?_⟩
  refine ⟨_, rfl, (c, 4, n), rfl, hs, ⟨Nat.le_of_ble_eq_true rfl, Nat.le_of_ble_eq_true rfl⟩, by show n ≤ 1000000; omega, fun H1 way k1 st1 hway => ?_⟩
  have hway : way < 4 := hway
  have k1 : Keep c H H1 := k1
  have st1 : StAt H1 c (n + 1) := st1
  refine ⟨_, rfl, way, 3, rfl, rfl, _, rfl, ?_⟩
  by_cases h3 : way = 3
  · rw [decide_eq_true h3]
    refine iteT ⟨_, rfl, (c, 2, n + 1), rfl, st1, ⟨Nat.le_of_ble_eq_true rfl, Nat.le_of_ble_eq_true rfl⟩, by show n + 1 ≤ 1000000; omega, fun H2 b k2 st2 hb => ?_⟩
    have hb : b < 2 := hb
    have k2 : Keep c H1 H2 := k2
    have st2 : StAt H2 c (n + 1 + 1) := st2
    refine ⟨szl (Nat.le_of_ble_eq_true rfl), fun o no => ?_⟩
    refine ⟨_, rfl, o, m, _, rfl, rfl, upd_same, by omega, by omega, ?_, fun p np => ?_⟩
    · refine szl ?_
      rw [Int.toNat_natCast]
      show 1 * m ≤ 100000
      omega
    · refine q _ p (List.replicate m b) (((k1.trans k2).trans (Keep.of (same_new no))).trans (Keep.of (same_new np))) (((st2.mono (by omega)).same (same_new no)).same (same_new np)) ?_ List.length_replicate (fun x hx => by rw [(List.mem_replicate.mp hx).2]; omega)
      rw [upd_same, Int.toNat_natCast]
      have e : ∀ m : Nat, (List.replicate m [vn b]).flatten = vns (List.replicate m b) := fun m => by
        induction m with
        | zero => rfl
        | succ m ih => rw [List.replicate_succ, List.replicate_succ, List.flatten_cons, ih]; rfl
      exact congrArg (fun l => some (HO.lst l)) (e m)
  · rw [decide_eq_false h3]
    refine iteF ?_
    refine ⟨Nat.zero_le _, fun o no => ?_⟩
    have noc : o ≠ c := by
      obtain ⟨x, y, z, e, _⟩ := st1
      exact fun z => by rw [z, e] at no; cases no
    refine ⟨_, rfl, m, rfl, by omega, by omega, forN (fun i σ H3 => ∃ y z bs, σ = [some (.ref c), some (vn m), some (vn way), some (.ref o), y, z] ∧ Keep c H1 H3 ∧ StAt H3 c (n + 1 + i) ∧ H3 o = some (.lst (vns bs)) ∧ bs.length = i ∧ ∀ b ∈ bs, b ≤ 1)
      ⟨none, none, [], rfl, Keep.of (same_new no), st1.same (same_new no), upd_same, rfl, by simp⟩ ?_ ?_⟩
    · rintro i σ H3 hi ⟨y, z, bs, rfl, k3, st3, ho3, lb, ab⟩
      refine ⟨_, rfl, szl (Nat.le_of_ble_eq_true rfl), fun D nD => ?_⟩
      obtain ⟨cnt, c1, c5, c0, ec⟩ := way_of (way := way) (by omega)
      have st3' : StAt (upd H3 D (.lst [vn 2, vn 5, vn 5])) c (n + 1 + i) := st3.same (same_new nD)
      refine ⟨_, rfl, D, _, _, _, rfl, rfl, SqL.of upd_same, ec, ?_⟩
      refine ⟨(c, cnt, n + 1 + i), rfl, st3', ⟨c1, by show cnt ≤ 1000; omega⟩, by show n + 1 + i ≤ 1000000; omega, fun H4 one k4 st4 hone => ?_⟩
      have k4 : Keep c (upd H3 D (.lst [vn 2, vn 5, vn 5])) H4 := k4
      have k4 := keep_new k4 nD
      have hone : one < cnt := hone
      have st4 : StAt H4 c (n + 1 + i + 1) := st4
      have ho4 := k4 _ _ noc ho3
      obtain ⟨b, hb, eb⟩ := bit_of (way := way) (one := one) (by omega) (fun z => by have := c0 z; omega)
      refine ⟨_, rfl, .inl ⟨rfl, _, SqL.of ho4⟩, _, rfl, _, rfl, one, 0, rfl, rfl, .inr ⟨_, rfl, ?_⟩⟩
      refine ⟨_, rfl, one, 0, rfl, rfl, .inr ⟨_, rfl, ?_⟩⟩
      refine ⟨szl (Nat.le_of_ble_eq_true rfl), fun D2 nD2 => ?_⟩
      refine ⟨_, rfl, D2, _, _, _, rfl, rfl, SqL.of upd_same, eb, ?_⟩
      have ho5 := same_new (o := .lst [vn one, .int (if decide (one = 0) = true then 1 else 0), .int (if decide (0 < one) = true then 1 else 0)]) nD2 _ _ ho4
      refine ⟨o, _, _, rfl, rfl, ho5, ?_, ?_⟩
      · refine szlt ?_
        rw [List.length_map]
        omega
      · refine ⟨_, _, bs ++ [b], rfl, keep_mut ((k3.trans k4).trans (Keep.of (same_new nD2))) no, (st4.same (same_new nD2)).upd noc, ?_, by rw [List.length_append, lb]; rfl, fun x hx => ?_⟩
        · rw [upd_same, vns_app]
          rfl
        · rcases List.mem_append.mp hx with h' | h'
          · exact ab x h'
          · rw [List.mem_singleton.mp h']
            exact hb
    · rintro σ H3 ⟨y, z, bs, rfl, k3, st3, ho3, lb, ab⟩
      refine ⟨_, rfl, q _ o bs (k1.trans k3) (st3.mono (by omega)) ho3 lb ab⟩
def bval (bs : List Nat) : Nat := bs.foldr (fun b r => 2 * r + b) 0
theorem bval_lt : ∀ {bs : List Nat}, (∀ b ∈ bs, b ≤ 1) → bval bs < 2 ^ bs.length
  | [], _ => Nat.one_pos
  | b :: bs, h => by
    have h1 := bval_lt (bs := bs) fun x hx => h x (List.mem_cons_of_mem _ hx)
    have h2 := h b List.mem_cons_self
    show 2 * bval bs + b < 2 ^ (bs.length + 1)
    rw [Nat.pow_succ]
    omega
theorem bval_drop {bs : List Nat} {i : Nat} {b : Nat} (h : bs[i]? = some b) : bval (bs.drop i) = 2 * bval (bs.drop (i + 1)) + b := by
  obtain ⟨h1, h2⟩ := List.getElem?_eq_some_iff.mp h
  rw [List.drop_eq_getElem_cons h1, h2]
  rfl
def spLawWord : Sp := spG (fun a : Addr × List Nat => [.ref a.1]) fun a H Q => H a.1 = some (.lst (vns a.2)) ∧ a.2.length ≤ 64 ∧ Q (vn (bval a.2)) H
theorem dn_law_word (T : Txt K mg) : Dn P w K mg base "_law_word" 1 ["_law_bits_here"] spLawWord := by
  refine dnG (N := ["_law_bits_here", "_law_found", "_law_bit"]) T.d_law_word sc_law_word (fun f fd F => FunD.bindsN (ps := ["_law_bits_here"]) F fun _ _ _ _ _ _ us hl => match us, hl with | [_], _ => rfl) (fun _ => rfl) (fun f cdv A outer s H a Q E hr h => ?_)
  obtain ⟨p, bs⟩ := a
  obtain ⟨hp, hl, q⟩ := h
  have hp : H p = some (.lst (vns bs)) := hp
  have hl : bs.length ≤ 64 := hl
  have q : Q (vn (bval bs)) H := q
  refine ⟨_, pss_cons (ps_set (i := 1) sc_law_word.nd rfl (.inl rfl) pe_int)
    (pss_cons (ps_for PassesOwn.never rfl (pi_reversed (by rfl) T.n_reversed (pa_cons (pv 0) pa_nil)) (pg_name (i := 2) sc_law_word.nd rfl (.inl rfl))
      (pss_one (ps_set (i := 1) sc_law_word.nd rfl (.inl rfl) (pe_op addN (pe_op mulN pe_int (pv 1)) (pv 2)))))
    (pss_one (ps_ret (pv 1)))), ?_⟩
  refine ⟨_, rfl, p, vns bs, rfl, SqL.of hp, for_it walk_rev (fun i σ H2 => ∃ y, σ = [some (.ref p), some (vn (bval (bs.drop (bs.length - i)))), y] ∧ H2 = H)
    ⟨none, by rw [Nat.sub_zero, List.drop_length]; rfl, rfl⟩ (fun i σ H2 _ ⟨_, _, e⟩ => by rw [e]; exact SqL.of hp) ?_ ?_⟩
  · rintro i x σ H2 H3 hi ⟨y, rfl, rfl⟩ ⟨rfl, hx⟩
    obtain ⟨b, e1, rfl⟩ := vns_get hx
    rw [List.length_map] at hi e1
    refine ⟨_, rfl, 2, _, rfl, rfl, .inl (by omega), _, rfl, _, b, rfl, rfl, some (vn b), ?_, rfl⟩
    have e2 : bs.length - (i + 1) + 1 = bs.length - i := by omega
    have e3 := bval_drop (i := bs.length - (i + 1)) (b := b) (by rw [← e1]; congr 1; omega)
    rw [e2] at e3
    rw [e3]
    rfl
  · rintro σ H2 ⟨y, rfl, rfl⟩
    refine ⟨_, rfl, ?_⟩
    rw [List.length_map, Nat.sub_self]
    exact q
end
end YN
set_option Elab.async false
set_option linter.all false
set_option maxRecDepth 100000
set_option maxHeartbeats 4000000
namespace YN
open PySem PySem.Spec PyProof.Rows L2
theorem sc_law_hand : FnScope ["_law_script", "_law_state", "_law_weighs", "_law_cell", "_law_k", "_law_one"] ["_law_script"] (defScope s_law_hand) := ⟨rfl, rfl, rfl, by decide +kernel, rfl, by decide +kernel, by decide +kernel⟩
section
variable {X : Cx}
theorem powN : OpR X (binaryOp .Pow) (rN (fun n m => n < 2 ^ 64 ∧ m ≤ 1000000) fun n m => vn (n ^ m)) := opN op_pow fun n m c => by
  refine ⟨⟨by omega, by omega, by omega⟩, congrArg V.int ?_⟩
  rw [Int.toNat_natCast, Int.natCast_pow]
theorem mulWN : OpR X (binaryOp .Mult) (rN (fun n m => n < 2 ^ 13000 ∧ m < 2 ^ 13000) fun n m => vn (n * m)) := opN op_mulW fun n m c =>
  ⟨wide_mul (a := 13000) (b := 13000) (by rw [Int.natAbs_natCast]; exact c.1) (by rw [Int.natAbs_natCast]; exact c.2) (Nat.le_of_ble_eq_true rfl) (Nat.le_of_ble_eq_true rfl) (Nat.le_of_ble_eq_true rfl), congrArg V.int (Int.natCast_mul n m).symm⟩
/-- % of any number by a positive one -/
def rModI : R2 := fun x y H Q => ∃ (i : Int) (m : Nat), x = .int i ∧ y = vn m ∧ 0 < m ∧ ∀ r : Nat, r < m → Q (vn r) H
theorem modI : OpR X (binaryOp .Mod) rModI := by
  intro pins s σ H x y v u Q I rx ry q
  obtain ⟨i, m, rfl, rfl, hm, q⟩ := q
  refine op_mod pins s σ H _ _ v u Q I rx ry ⟨i, m, rfl, rfl, by omega, ?_⟩
  have h1 : 0 ≤ i % (m : Int) := Int.emod_nonneg i (by omega)
  have h2 : i % (m : Int) < m := Int.emod_lt_of_pos i (by omega)
  have e : V.int (i % (m : Int)) = vn (i % (m : Int)).toNat := congrArg V.int (by omega)
  show Q (V.int (i % (m : Int))) H
  rw [e]
  exact q _ (by omega)
end
theorem ints_get {ns : List Int} {i : Nat} {v : V} (h : (ns.map V.int)[i]? = some v) : ∃ z, ns[i]? = some z ∧ v = .int z := by
  rw [List.getElem?_map] at h
  cases ez : ns[i]? with
  | none => rw [ez] at h; cases h
  | some z => rw [ez] at h; cases h; exact ⟨z, rfl, rfl⟩
theorem weigh_lt {i : Nat} (hi : i ≤ 63) : (10 ^ 60) ^ i < 2 ^ 13000 := by
  have h1 : (10 ^ 60) ^ i ≤ (2 ^ 200) ^ i := Nat.pow_le_pow_left (by decide) i
  have h2 : (2 ^ 200) ^ i = 2 ^ (200 * i) := (Nat.pow_mul 2 200 i).symm
  rw [h2] at h1
  have h3 : 200 * i < 13000 := by omega
  exact Nat.lt_of_le_of_lt h1 (Nat.pow_lt_pow_right (by decide) h3)
theorem ten60_lt : 10 ^ 60 < 2 ^ 13000 := by
  have h3 : 200 ≤ 13000 := by omega
  exact Nat.lt_of_lt_of_le (show 10 ^ 60 < 2 ^ 200 by decide) (Nat.pow_le_pow_right (by decide) h3)
section
variable {P : Program} {w : World} {K : PySem.W.Frag} {mg : Str → Option Value} {base : Heap}
def spHand (K : PySem.W.Frag) : Sp := spG (fun a : Addr × List Int => [.ref a.1]) fun a H Q => SqL K H a.1 (a.2.map V.int) ∧ a.2.length ≤ 63 ∧ ∀ H' p, Same H H' → StAt H' p 0 → Q (.ref p) H'
theorem dn_law_hand (T : Txt K mg) : Dn P w K mg base "_law_hand" 1 ["_law_script"] (spHand K) := by
  refine dnG (N := ["_law_script", "_law_state", "_law_weighs", "_law_cell", "_law_k", "_law_one"]) T.d_law_hand sc_law_hand (fun f fd F => FunD.bindsN (ps := ["_law_script"]) F fun _ _ _ _ _ _ us hl => match us, hl with | [_], _ => rfl) (fun _ => rfl) (fun f cdv A outer s H a Q E hr h => ?_)
  obtain ⟨c, ns⟩ := a
  obtain ⟨hs, hl, q⟩ := h
  have hs : SqL K H c (ns.map V.int) := hs
  have hl : ns.length ≤ 63 := hl
  have q : ∀ H' p, Same H H' → StAt H' p 0 → Q (.ref p) H' := q
  have cut : cutV (ns.map V.int) none (some 63) = ns.map V.int := by
    rw [show (some (63 : Int)) = some ((63 : Nat) : Int) from rfl, cut_to, List.take_of_length_le (by rw [List.length_map]; exact hl)]
  obtain ⟨t2, ht2, h2⟩ : ∃ t2, PSs (cxOf CX0 P w K mg base ["_law_script", "_law_state", "_law_weighs", "_law_cell", "_law_k", "_law_one"] "_law_hand" (defScope s_law_hand) f cdv A outer s H E).nox ((defBody s_law_hand).drop 2) t2 ∧
      ∀ (o : Addr) (wy cy : Option V) (x : Nat) (H2 : Hp), H o = none → Same H H2 → H2 o = some (.lst [vn x, vn 0, vn 0]) → t2 { nx := fun _ H' => Q .non H', rt := Q } [some (.ref c), some (.ref o), wy, cy, none, none] H2 := by
    refine ⟨_, pss_cons (ps_for PassesOwn.never rfl (pi_enum (by rfl) T.n_enumerate (pa_cons (pe_slice sl_list (pv 0) po_none (po_some pe_int)) pa_nil)) (pg_tupK (K := K) (n := 2) rfl rfl (pgs_cons (pg_name (i := 4) sc_law_hand.nd rfl (.inl rfl)) (pgs_cons (pg_name (i := 3) sc_law_hand.nd rfl (.inl rfl)) pgs_nil)))
        (pss_cons (ps_set (i := 5) sc_law_hand.nd rfl (.inl rfl) (pe_op addN (pe_op addN (pe_op modI (pv 3) pe_int) (pe_op mulN pe_int (pv 4))) pe_int))
        (pss_one (ps_asg (pe_op modN (pe_op addN (pe_op mulN (pe_ix ix_list (pv 1) pe_int (fun _ _ => rfl)) pe_int) (pv 5)) pe_int) (pg_sub (pv 1) pe_int set_list)))))
      (pss_one (ps_ret (pv 1))), ?_⟩
    intro o wy cy x H2 no s2 ho
    refine ⟨_, rfl, ?_⟩
    delta tNoPart
    refine ⟨63, rfl, c, _, rfl, same_sq s2 hs, fun p np => ?_⟩
    rw [cut]
    have nop : o ≠ p := fun z => by rw [← z, ho] at np; cases np
    refine ⟨p, _, rfl, SqL.of upd_same, for_it walk_enum (fun i σ H3 => ∃ wy cy ky oy y, σ = [some (.ref c), some (.ref o), wy, cy, ky, oy] ∧ Same H H3 ∧ H3 p = some (.lst (ns.map V.int)) ∧ H3 o = some (.lst [vn x, vn y, vn 0]))
      ⟨wy, cy, none, none, 0, rfl, Same.trans s2 (same_new np), upd_same, by rw [upd_ne nop]; exact ho⟩ (fun i σ H3 _ ⟨_, _, _, _, _, _, _, e, _⟩ => SqL.of e) ?_ ?_⟩
    · rintro i v σ H3 H4 hi ⟨wy, cy, ky, oy, y, rfl, s3, hp3, ho3⟩ ⟨U, a, b, rfl, nU, rfl, ea, eb⟩
      cases ea
      obtain ⟨z, ez, rfl⟩ := ints_get eb
      have noU : o ≠ U := fun z => by rw [← z, ho3] at nU; cases nU
      have npU : p ≠ U := fun z => by rw [← z, hp3] at nU; cases nU
      have ho4 : upd H3 U (.tup [.int (i : Nat), .int z]) o = some (.lst [vn x, vn y, vn 0]) := by rw [upd_ne noU]; exact ho3
      refine ⟨U, _, rfl, SqT.of upd_same, rfl, _, _, rfl, _, _, rfl, rfl, ?_⟩
      refine ⟨_, rfl, z, 2305843009213693951, rfl, rfl, by omega, fun r hr => ?_⟩
      refine ⟨_, rfl, 7919, i, rfl, rfl, .inl (by omega), _, _, rfl, rfl, _, 3, rfl, rfl, ?_⟩
      refine ⟨_, rfl, o, _, _, _, rfl, rfl, SqL.of ho4, rfl, y, 48271, rfl, rfl, .inr (by omega), _, rfl, _, _, rfl, rfl, ?_⟩
      delta tC
      dsimp only
      refine modN_gen _ 2305843009213693951 rfl rfl (by omega) fun y2 hy2 => ?_
      refine ⟨_, rfl, o, _, 1, 1, rfl, rfl, ho4, rfl, ?_⟩
      refine ⟨_, _, _, _, y2, rfl, same_mut (Same.trans s3 (same_new nU)) no, ?_, upd_same⟩
      rw [upd_ne (Ne.symm nop), upd_ne npU]
      exact hp3
    · rintro σ H3 ⟨wy, cy, ky, oy, y, rfl, s3, hp3, ho3⟩
      exact ⟨_, rfl, q _ o s3 ⟨x, y, 0, ho3, Nat.le_refl _⟩⟩
  refine ⟨_, pss_cons (ps_set (i := 1) sc_law_hand.nd rfl (.inl rfl) (pe_lst (pa_cons pe_int (pa_cons pe_int (pa_cons pe_int pa_nil)))))
    (pss_cons (ps_if (PW.pt (pw_and (pt_cmpR gtN (pe_callB call_len_seq (by rfl) T.n_len (by decide +kernel) (pa_cons (pv 0) pa_nil)) pe_int (nomark _)) (pw_and1 (pt_cmpR op_ge (pe_ix ix_list (pv 0) pe_int (fun _ _ => rfl)) (pe_op powN pe_int pe_int) (nomark _)))))
      (pss_cons (ps_set (i := 2) sc_law_hand.nd rfl (.inl rfl) pe_int)
      (pss_one (ps_for PassesOwn.never rfl (pi_list (pe_slice sl_list (pv 0) po_none (po_some pe_int))) (pg_name (i := 3) sc_law_hand.nd rfl (.inl rfl))
        (pss_cons (ps_asg (pe_op addN (pe_ix ix_list (pv 1) pe_int (fun _ _ => rfl)) (pe_op mulWN (pe_op modN (pe_callB call_abs (by rfl) T.n_abs (by decide +kernel) (pa_cons (pv 3) pa_nil)) (pe_op powN pe_int pe_int)) (pv 2))) (pg_sub (pv 1) pe_int set_list))
        (pss_one (ps_set (i := 2) sc_law_hand.nd rfl (.inl rfl) (pe_op mulWN (pv 2) (pe_op powN pe_int pe_int)))))))) pss_nil)
    ht2), ?_⟩
  refine ⟨szl (Nat.le_of_ble_eq_true rfl), fun o no => ?_⟩
  have s0 : Same H (upd H o (.lst [vn 0, vn 0, vn 0])) := same_new no
  have ho0 : upd H o (.lst [vn 0, vn 0, vn 0]) o = some (.lst [vn 0, vn 0, vn 0]) := upd_same
  have hs0 := same_sq s0 hs
  refine ⟨_, rfl, c, _, rfl, .inl hs0, _, 0, rfl, rfl, _, rfl, ?_⟩
  by_cases h0 : 0 < (ns.map V.int).length
  · rw [decide_eq_true h0]
    refine iteT ?_
    have e0 : (ns.map V.int)[0]? = some (.int (ns[0]'(by rw [List.length_map] at h0; exact h0))) := by
      rw [List.getElem?_map, List.getElem?_eq_getElem (by rw [List.length_map] at h0; exact h0)]
      rfl
    refine ⟨_, rfl, c, _, _, _, rfl, rfl, hs0, atI_nat e0, 10, 18, rfl, rfl, ⟨by omega, by omega⟩, _, _, rfl, rfl, _, rfl, ?_⟩
    by_cases hg : ((10 ^ 18 : Nat) : Int) ≤ ns[0]'(by rw [List.length_map] at h0; exact h0)
    · rw [decide_eq_true hg]
      refine iteT ⟨_, rfl, ?_⟩
      delta tNoPart
      refine ⟨63, rfl, c, _, rfl, hs0, fun p np => ?_⟩
      rw [cut]
      have nop : o ≠ p := fun z => by
        subst z
        exact absurd (ho0.symm.trans np) (by intro z; cases z)
      refine ⟨p, rfl, ⟨_, SqL.of upd_same⟩, for_list (K := K) (a := p) (xs := ns.map V.int) (fun i σ H3 => ∃ cy x, σ = [some (.ref c), some (.ref o), some (vn ((10 ^ 60) ^ i)), cy, none, none] ∧ Same H H3 ∧ H3 p = some (.lst (ns.map V.int)) ∧ H3 o = some (.lst [vn x, vn 0, vn 0]))
        ⟨none, 0, rfl, Same.trans s0 (same_new np), upd_same, by rw [upd_ne nop]; exact ho0⟩ (fun i σ H3 _ ⟨_, _, _, _, e, _⟩ => SqL.of e) ?_ ?_⟩
      · rintro i v σ H3 hv ⟨cy, x, rfl, s3, hp3, ho3⟩
        have hi : i < ns.length := by
          have := (List.getElem?_eq_some_iff.mp hv).1
          rw [List.length_map] at this
          exact this
        obtain ⟨z, ez, rfl⟩ := ints_get hv
        have wl := weigh_lt (i := i) (by omega)
        refine ⟨_, rfl, o, _, _, _, rfl, rfl, SqL.of ho3, rfl, ?_⟩
        refine ⟨_, rfl, z, rfl, 10, 60, rfl, rfl, ⟨by omega, by omega⟩, ?_⟩
        refine ⟨z.natAbs, 10 ^ 60, congrArg V.int (by split <;> omega), rfl, Nat.pow_pos (by decide), ?_⟩
        refine ⟨_, rfl, z.natAbs % 10 ^ 60, (10 ^ 60) ^ i, rfl, rfl, ⟨Nat.lt_trans (Nat.mod_lt _ (Nat.pow_pos (by decide))) ten60_lt, wl⟩, ?_⟩
        refine ⟨x, _, rfl, rfl, ?_⟩
        refine ⟨_, rfl, o, _, 0, 0, rfl, rfl, ho3, rfl, ?_⟩
        refine ⟨_, rfl, 10, 60, rfl, rfl, ⟨by omega, by omega⟩, (10 ^ 60) ^ i, 10 ^ 60, rfl, rfl, ⟨wl, ten60_lt⟩, ?_⟩
        refine ⟨some (.int z), _, ?_, same_mut s3 no, ?_, upd_same⟩
        · rw [Nat.pow_succ]
          rfl
        · rw [upd_ne (Ne.symm nop)]
          exact hp3
      · rintro σ H3 ⟨cy, x, rfl, s3, hp3, ho3⟩
        exact h2 o _ cy x H3 no s3 ho3
    · rw [decide_eq_false hg]
      refine iteF ?_
      exact h2 o none none 0 _ no s0 ho0
  · rw [decide_eq_false h0]
    refine iteF ?_
    exact h2 o none none 0 _ no s0 ho0
end
end YN
set_option Elab.async false
set_option linter.all false
set_option maxRecDepth 100000
set_option maxHeartbeats 4000000
/-! sorted(.., key=lambda t: (len(t), t)) -/
namespace YN
open PySem PySem.Spec PyProof.Rows L2
section
variable {P : Program} {w : World} {K : PySem.W.Frag} {mg : Str → Option Value}
abbrev rankBody (x : Str) (p1 p2 p3 p4 pos : Pos) (j : Nat) : Expr := .Tuple [.Call (.Name "len" p1) [.Name x p2] [] p3, .Name x p4] j pos
/-- what the lambda's scope tells -/
structure RankS (x : Str) (sc : Scope) : Prop where
  kind : sc.kind = .function
  co : sc.isCoroutine = false
  gen : sc.isGenerator = false
  nocell : ∀ y ∈ sc.names, y.2 ≠ .cell ∧ y.2 ≠ .free
  par : sc.names.lookup x = some .local
  len : sc.names.lookup ("len" : Str) = some .globalImplicit
  dbg : (x == ("__debug__" : Str)) = false
theorem lam_rank_call {x : Str} {f b c' : Addr} {q : Str} {sc : Scope} {pr : Arguments} {p1 p2 p3 p4 pos : Pos} {j : Nat} {pm ctv : Value} {t : List Nat} {us : List Value} {A : Around} {s : Shared} {mb : Str → Option Value}
    (hf : s.heap.get? f = some (PySem.W.kla_obj "<lambda>" q pr (rankBody x p1 p2 p3 p4 pos j) sc [] pm c' ctv)) (hcd : s.heap.CodeRec (.ref c') q) (S : RankS x sc)
    (hbind : bindArgs (PySem.W.kla_fn "<lambda>" q pr (rankBody x p1 p2 p3 p4 pos j) sc [] pm (.ref c') ctv) ⟨[.ref b], []⟩ = pure [(x, .ref b)])
    (lim : s.heap.NoLimit) (hr : A.depth < recursionLimit) (G : s.heap.Ns mainGlobals mg) (B : s.heap.Ns builtinsNs mb)
    (ml : mg "len" = none) (hmb : mb "len" = some (.builtin "len")) (ht : IsTup s.heap b us.toArray) (r : Vals (vns t) us) (hz : t.length ≤ 100000) :
    wpAny (model P w) A (call (.ref f) [.ref b]) (PySem.W.KeyPure (rkD t) s) (fun _ _ => False) s := by
  have hlen : us.length = t.length := by rw [← r.length, List.length_map]
  have rc : codeAny (model P w) A (.call (.ref f) ⟨[.ref b], []⟩) (fun r s' => ∃ v, r = .ok (.ret v) ∧ PySem.W.KeyPure (rkD t) s v s') s := by
    refine PySem.W.kla_callFunE hr hf rfl S.co S.gen rfl hcd ?_
    rw [hbind]
    refine wpAny_pure (wpAny_newFunctionEnv (fun y hy => (S.nocell y hy).1) (fun y hy => ?_) (fun h₁ hns hsb => ⟨lim.fresh _ hsb, ?_⟩) S.kind)
    · rw [List.mem_singleton.mp hy]
      exact S.par
    have hk : ∀ b o, s.heap.get? b = some o → h₁.get? b = some o := fun b o e => hsb.extBut b o (Nat.ne_of_lt (Heap.lt_size e)) (Heap.get?_push_of_some _ e)
    refine PySem.W.kla_codeExpr (rank_eval (its := us) S.kind S.par S.len (G.keeps hk) (B.keeps hk) ml hmb hns (by simp [List.lookup]) (istup_kept ht hk) (by omega) S.dbg fun t' tk' => ?_)
    refine ⟨_, rfl, _, tk', rfl, fun b' o e => Heap.get?_push_of_some _ (hk b' o e), ?_⟩
    refine reads_rank (k := t') ?_ (istup_kept ht fun b' o e => Heap.get?_push_of_some _ (hk b' o e)) r
    rw [← hlen]
    exact Heap.get?_push_size _ rfl
  refine wpAny_call (codeAny_mono rc fun r s' hq => ?_)
  obtain ⟨v, rfl, q⟩ := hq
  exact q
end
def rSortLam (K : PySem.W.Frag) (T : List (Addr × Str)) (v : V) (H1 : Hp) (Q : VK) : Prop := ∃ a bs ts, v = .ref a ∧ SqL K H1 a (bs.map .ref) ∧ TmsAt H1 bs ts ∧ ts.length ≤ 100000 ∧ (∀ t ∈ ts, t.length ≤ 100000) ∧ LamX.Tabs T H1 ∧
  ∀ H2 p bs', LamX.ExtN H1 H2 → LamX.Tabs T H2 → H2 p = none → TmsAt H2 bs' (srt ts) → Q (.ref p) (upd H2 p (.lst (bs'.map .ref)))
def tSortLam (K : PySem.W.Frag) (T : List (Addr × Str)) (te : TE) : TE := fun σ H Q => te σ H fun v H1 => rSortLam K T v H1 Q
theorem ExtN.sq {K : PySem.W.Frag} {H H' : Hp} {a : Addr} {xs : List V} (e : LamX.ExtN H H') (h : SqL K H a xs) : SqL K H' a xs := by
  rcases h with (h | ⟨o, h⟩) | h
  · exact .inl (.inl (e _ _ h (by intro ps z; cases z)))
  · exact .inl (.inr ⟨o, e _ _ h (by intro ps z; cases z)⟩)
  · exact .inr h
theorem ExtN.tups {H H' : Hp} (e : LamX.ExtN H H') : Tups H H' := fun b xs h => e b _ h (by intro ps z; cases z)
section
variable {X : Cx}
theorem pe_sortLam {T : List (Addr × Str)} {x : Str} {c tb : Addr} {k : Nat} {params : Arguments} {sc : Scope} {e : Expr} {te : TE} {p p1 p2 p3 p4 p5 lpos kpos pos : Pos} {j : Nat} (hg : Gl X "sorted") (hm : X.mg "sorted" = none) (ml : X.mg "len" = none) (he : PE X e te)
    (TB : LamX.TabB X.base X.mg c tb) (hcode : X.env.code = .ref c) (hmT : (tb, X.env.qual ++ "<lambda>") ∈ T) (hu : ∀ p ∈ T, p.1 = tb → p.2 = X.env.qual ++ "<lambda>") (hr : Room (k + 2) X.A) (S : RankS x sc) (hdef : defaultsOf params X.env = ([], []))
    (hclo : cloFrom X.env.cells sc.names [] = [])
    (hbind : ∀ (b c' : Addr) (q : Str) (pm ctv : Value), bindArgs (PySem.W.kla_fn "<lambda>" q params (rankBody x p1 p2 p3 p4 p5 j) sc [] pm (.ref c') ctv) ⟨[.ref b], []⟩ = pure [(x, .ref b)])
    (hs : starEach [e] X.env = (false, eval e X.env) :: starEach [] X.env := by rfl) :
    PE X (.Call (.Name "sorted" p) [e] [⟨some "key", .Lambda params (rankBody x p1 p2 p3 p4 p5 j) sc lpos, kpos⟩] pos) (tSortLam X.K T te) := by
  refine ⟨fun pins s σ H Q I h => ?_⟩
  have ha : PA X [e] (tCons te tNil) := pa_cons he pa_nil hs
  refine wpAny_Call_Name_kw (ld_blt I hg hm (show bootBuiltins ("sorted" : Str) = some (.builtin "sorted") by decide +kernel) ?_ (by decide) (by decide))
  refine PyProof.Rows.callWith_kw (thn (ha.run pos pins s σ H (fun vs H1 => match vs with | [v] => rSortLam X.K T v H1 Q | _ => False) I h) fun us s1 ⟨vs, H1, I1, r1, q1⟩ => ?_) (by rw [hs]; rfl) (by rw [hs]; rfl) rfl rfl
  obtain ⟨v, rfl, q1⟩ : ∃ v, vs = [v] ∧ rSortLam X.K T v H1 Q := match vs, q1 with | [v], q => ⟨v, rfl, q⟩
  obtain ⟨a, bs, ts, rfl, hS, ht, hz, hts, hT, q⟩ := q1
  rw [Vals.ref1 r1]
  show wpAny _ _ (evalAll ((do let v ← eval (.Lambda params (rankBody x p1 p2 p3 p4 p5 j) sc lpos) X.env; standAt pos; pure v) :: [])) _ _ s1
  refine wpAny_evalAll_cons (wpAny_bind (LamX.lam_make2 I1 TB hcode hmT hu hT hdef (fun y hy z => absurd z (S.nocell y hy).2) fun f c' pm' ctv H2 s' I2 eN T2 hf hfn hfr hco => wpAny_bind (wpAny_standAt (wpAny_pure (wpAny_evalAll_nil ?_)))))
  rw [hclo] at hf
  obtain ⟨⟨oc, vs, tq, hoc, hdc, hvc⟩, _, _⟩ := I2.hok c' _ hco
  refine sorted_rank I2 hr.units (ExtN.sq eN hS) (TmsAt.tups (ExtN.tups eN) ht) hz (fun b t hm hb h tk kp => ?_) fun p bs' np hbs' => q H2 p bs' eN T2 np hbs'
  obtain ⟨its, rv, hl, _⟩ := I2.tuple (SqT.of hb)
  obtain ⟨mb, h1, h2⟩ := I2.mod.blt
  have hbk : ∀ b o, X.base.get? b = some o → h.get? b = some o := fun b o e => kp b o (I2.bk b o e)
  exact lam_rank_call (s := { s' with heap := h, toks := tk }) (kp _ _ hf) ⟨c', oc, vs, tq, rfl, kp _ _ hoc, hdc, hvc⟩ S (hbind b c' _ pm' ctv) (I2.mod.nolimit.keeps hbk) (by
    have := hr.dp
    show X.A.depth < recursionLimit
    omega) (I2.mod.glob.keeps hbk) (h1.keeps hbk) ml ((h2 _ (by decide)).trans (by decide +kernel)) (istup_kept hl kp) rv (hts t hm)
end
end YN
set_option Elab.async false
set_option linter.all false
set_option maxRecDepth 100000
set_option maxHeartbeats 4000000
namespace YN
open PySem PySem.Spec PyProof.Rows L2
theorem sc_law_terms : FnScope ["_law_many_here", "_law_most", "_law_found", "_law_letter", "_law_term"] ["_law_many_here", "_law_most"] (defScope s_law_terms) := ⟨rfl, rfl, rfl, by decide +kernel, rfl, by decide +kernel, by decide +kernel⟩
section
variable {P : Program} {w : World} {K : PySem.W.Frag} {mg : Str → Option Value} {base : Heap}
/-- a def by its body, its code object known -/
theorem dnC {α : Type} {args : α → List V} {pre : α → Hp → VK → Prop} {N ps : List Str} {k : Nat} {x : Str} {st : Stmt} {c : Addr} (h : ∃ f fd, FnP K x st f fd ∧ mg x = some (.ref f) ∧ fd.code = .ref c) (S : FnScope N ps (defScope st))
    (hb : ∀ f fd, FnP K x st f fd → Binds K fd ps []) (len : ∀ a, (args a).length = ps.length)
    (hbody : ∀ (f : Addr) (A : Around) (outer : List Env) (s : Shared) (H : Hp) (a : α) (Q : VK) (E : XK), Room k (A.deeper (envOfC x (defScope st) s.heap.objs.size f (.ref c))) → pre a H Q →
      ∃ t, PSs (cxOf CX0 P w K mg base N x (defScope st) f (.ref c) A outer s H E).nox (defBody st) t ∧ t { nx := fun _ H' => Q .non H', rt := Q } (start N (args a)) H) : Dn P w K mg base x (k + 1) ps (spG args pre) := by
  obtain ⟨f, fd, F, g, hc⟩ := h
  have Bd := hb f fd F
  have kp := F.kp
  obtain ⟨oc, od, dV, kV, doc, pm, an, cdv, ct, osl, e, lk, hcd, _, _⟩ := F.ex
  subst e
  have hc : cdv = .ref c := hc
  subst hc
  refine ⟨f, _, fn_of lk hcd S (fun vs H Q E h => ?_) (fun A outer s H vs Q E hr h => ?_), g, kp, Bd⟩
  · obtain ⟨a, rfl, _⟩ := h
    exact len a
  · obtain ⟨a, rfl, q⟩ := h
    obtain ⟨t, ht, q⟩ := hbody f A outer s H a Q E hr q
    exact ⟨t, ht.nox, q⟩
/-- one term behind the other -/
theorem tm_cat {H : Hp} {a b : Addr} {t u : List Nat} {Q : VK} (h1 : TmAt H a t) (h2 : TmAt H b u) (hl : t.length + u.length ≤ 1000) (k : ∀ p H1, Same H H1 → TmAt H1 p (t ++ u) → Q (.ref p) H1) : rCatA K (.ref a) (.ref b) H Q := by
  refine ⟨a, b, _, _, rfl, rfl, SqT.of h1, SqT.of h2, ?_, fun z => ?_, fun _ z => ?_, fun _ _ p np => ?_⟩
  · rw [List.length_map, List.length_map]
    exact szl (by omega)
  · have z : t = [] := List.map_eq_nil_iff.mp z
    subst z
    exact k _ _ (Same.refl _) h2
  · have z : u = [] := List.map_eq_nil_iff.mp z
    subst z
    refine k _ _ (Same.refl _) ?_
    rw [List.append_nil]
    exact h1
  · refine k _ _ (same_new np) ?_
    show upd H p _ p = _
    rw [upd_same, vns_app]
/-- over a list, with a test -/
theorem lcLt {K : PySem.W.Frag} {a : Addr} {xs : List V} {g : TG} {tt : TT} {te : TE} {vs : List Nat} {σ : L2.St} {H1 : Hp} {D : Addr} {Qd : Hp → Prop} (hS : SqL K H1 a xs) (R : Hp → Nat → Option V → Prop) (nD : H1 D = none) (hn : xs.length ≤ 100000) (mono : ∀ H H' i o, Tups H H' → R H i o → R H' i o)
    (hs : ∀ i H x (Qy : VK) (Qn : Hp → Prop), xs[i]? = some x → Same H1 H → (∀ y H4, Same H H4 → R H4 i (some y) → Qy y H4) → (∀ H3, Same H H3 → R H3 i none → Qn H3) →
      g x (wipe σ vs) H fun σ2 H2 => wipe σ2 vs = wipe σ vs ∧ tt σ2 H2 fun b H3 => if b = true then te σ2 H3 Qy else Qn H3)
    (hd : ∀ H (os : List (Option V)), Same H1 H → os.length = xs.length → (∀ i o, os[i]? = some o → R H i o) → H D = some (.lst (os.filterMap id)) → Qd H) : LcRun (Itl K a) g tt te vs σ H1 D Qd :=
  lc_go R nD hn mono (goL hS).1 (goL hS).2.1 (fun i H x H' Qy Qn hi sm hy h1 h2 => by
    obtain ⟨e, hx⟩ := (goL hS).2.2 i H x H' sm hy
    subst e
    exact hs i _ x Qy Qn hx sm h1 h2) hd
def lamQ : Str := ("_law_terms" : Str) ++ ".<locals>." ++ "<lambda>"
def lamT (tb : Addr) : List (Addr × Str) := [(tb, lamQ)]
theorem extN_same {H H' : Hp} (s : Same H H') : LamX.ExtN H H' := fun b o e _ => s b o e
theorem tabs_same {T : List (Addr × Str)} {H H' : Hp} (s : Same H H') (h : LamX.Tabs T H) : LamX.Tabs T H' := h.ext s
theorem pl_ext {H H' : Hp} {p : Addr} {L : List (List Nat)} (s : LamX.ExtN H H') (h : PlAt H p L) : PlAt H' p L := by
  obtain ⟨bs, e, hb⟩ := h
  exact ⟨bs, s _ _ e (by intro ps z; cases z), hb.tups (ExtN.tups s)⟩
def spTerms (tb : Addr) : Sp := spG (fun a : Nat × Nat => [vn a.1, vn a.2]) fun a H Q => a.1 ≤ 6 ∧ LamX.Tabs (lamT tb) H ∧ ∀ H' p, LamX.ExtN H H' → LamX.Tabs (lamT tb) H' → PlAt H' p (srt ((allT a.1).filter fun t => decide (t.length ≤ a.2))) → Q (.ref p) H'
theorem allT_small {i : Nat} (hi : i ≤ 6) : (allT i).length ≤ 64 ∧ ∀ t ∈ allT i, t.length ≤ 6 := by
  refine ⟨by rw [allT_len]; exact pow_le64 hi, fun t ht => ?_⟩
  have := ((allT_ok i).2 t ht).len
  omega
theorem dn_law_terms (T : Txt K mg) {c tb : Addr} (hc : ∃ f fd, FnP K "_law_terms" s_law_terms f fd ∧ mg "_law_terms" = some (.ref f) ∧ fd.code = .ref c) (TB : LamX.TabB base mg c tb) : Dn P w K mg base "_law_terms" 3 ["_law_many_here", "_law_most"] (spTerms tb) := by
  refine dnC (N := ["_law_many_here", "_law_most", "_law_found", "_law_letter", "_law_term"]) (c := c) hc sc_law_terms (fun f fd F => FunD.bindsN (ps := ["_law_many_here", "_law_most"]) F fun _ _ _ _ _ _ us hl => match us, hl with | [_, _], _ => rfl) (fun _ => rfl) (fun f A outer s H a Q E hr h => ?_)
  obtain ⟨m, k⟩ := a
  obtain ⟨hm, hT, q⟩ := h
  have hm : m ≤ 6 := hm
  have q : ∀ H' p, LamX.ExtN H H' → LamX.Tabs (lamT tb) H' → PlAt H' p (srt ((allT m).filter fun t => decide (t.length ≤ k))) → Q (.ref p) H' := q
  refine ⟨_, pss_cons (ps_set (i := 2) sc_law_terms.nd rfl (.inl rfl) (pe_lst (pa_cons (pe_tup pa_nil) pa_nil)))
    (pss_cons (ps_for PassesOwn.never rfl (pi_range1 (by rfl) T.n_range (pa_cons (pv 0) pa_nil)) (pg_name (i := 3) sc_law_terms.nd rfl (.inr rfl))
      (pss_one (ps_set (i := 2) sc_law_terms.nd rfl (.inl rfl) (pe_op op_cat (pv 2) (pe_lc (own := [("_law_term", 4)]) (by rfl) sc_law_terms.nd (pi_list (pv 2)) (blkOk_by (N := ["_law_many_here", "_law_most", "_law_found", "_law_letter", "_law_term"]) (sc := defScope s_law_terms) (by decide +kernel)) (fun _ _ _ _ _ => pg_name (i := 4) sc_law_terms.nd rfl (.inl rfl)) (fun _ _ _ _ _ => pts_nil)
        (fun _ _ _ _ _ => pe_op (catAK (K := K) rfl) (pv 4) (pe_tup (pa_cons (pv 3) pa_nil))))))))
    (pss_one (ps_ret (pe_sortLam (X := (cxOf CX0 P w K mg base _ "_law_terms" (defScope s_law_terms) f (.ref c) A outer s H E).nox) (T := lamT tb) (c := c) (tb := tb) (x := "_law_term") (by rfl) T.n_sorted T.n_len
      (pe_lc (own := [("_law_term", 4)]) (by rfl) sc_law_terms.nd (pi_list (pv 2)) (blkOk_by (N := ["_law_many_here", "_law_most", "_law_found", "_law_letter", "_law_term"]) (sc := defScope s_law_terms) (by decide +kernel)) (fun _ _ _ _ _ => pg_name (i := 4) sc_law_terms.nd rfl (.inl rfl)) (fun _ _ _ _ _ => pts_one (pt_cmpR leN (pe_callB (call_lenK (K := K) rfl) (by rfl) T.n_len (by decide +kernel) (pa_cons (pv 4) pa_nil)) (pv 1) (nomark _))) (fun _ _ _ _ _ => pv 4))
      TB rfl (List.mem_singleton.mpr rfl) (fun p hp _ => by rw [List.mem_singleton.mp hp]; rfl) hr ⟨rfl, rfl, rfl, by decide +kernel, rfl, rfl, rfl⟩ rfl rfl (fun _ _ _ _ _ => rfl))))), ?_⟩
  refine ⟨szl (Nat.zero_le _), fun e0 n0 => ⟨szl (Nat.le_of_ble_eq_true rfl), fun p0 np0 => ?_⟩⟩
  have s0 : Same H (upd (upd H e0 (.tup [])) p0 (.lst [.ref e0])) := Same.trans (same_new n0) (same_new np0)
  have ne0 : e0 ≠ p0 := fun z => by
    subst z
    rw [upd_same] at np0
    cases np0
  have l0 : PlAt (upd (upd H e0 (.tup [])) p0 (.lst [.ref e0])) p0 (allT 0) := ⟨[e0], upd_same, .cons (by show upd _ _ _ e0 = _; rw [upd_ne ne0, upd_same]; rfl) .nil⟩
  refine ⟨_, rfl, m, rfl, by omega, by omega, forN (fun i σ H3 => ∃ p y z, σ = [some (vn m), some (vn k), some (.ref p), y, z] ∧ Same H H3 ∧ PlAt H3 p (allT i))
    ⟨p0, none, none, rfl, s0, l0⟩ ?_ ?_⟩
  · rintro i σ H3 hi ⟨p, y, z, rfl, s3, bs, ep, hbs⟩
    obtain ⟨len, small⟩ := allT_small (i := i) (by omega)
    have ll := paired_len hbs
    refine ⟨_, rfl, _, rfl, p, rfl, ⟨_, SqL.of ep⟩, fun D nD => lcL (SqL.of ep) (fun Hh j y => ∃ b t, ((allT i).map (· ++ [i]))[j]? = some t ∧ y = .ref b ∧ TmAt Hh b t) nD (by rw [List.length_map]; omega) (fun _ _ _ _ tp ⟨b, t, z1, z2, z3⟩ => ⟨b, t, z1, z2, z3.tups tp⟩) (fun j H4 x Qy hx sm kk => ?_) (fun H4 ys sm hlen hR hD => ?_) (gName_mono 4)⟩
    · obtain ⟨d, u, _, e1, rfl, hd⟩ := po_get hbs hx
      have us := small u (List.mem_of_getElem? e1)
      refine ⟨rfl, _, rfl, _, rfl, szl (Nat.le_of_ble_eq_true rfl), fun g ng => ?_⟩
      have sg := same_new (o := .tup [vn i]) ng
      have hg : TmAt (upd H4 g (.tup [vn i])) g [i] := upd_same
      refine tm_cat ((hd.same sm).same sg) hg (by show u.length + 1 ≤ 1000; omega) fun r H5 s5 hr5 => ?_
      refine kk _ _ (Same.trans sg s5) ⟨r, u ++ [i], ?_, rfl, hr5⟩
      rw [List.getElem?_map, e1]
      rfl
    · obtain ⟨cs, e, hcs⟩ := terms_are (ts := (allT i).map (· ++ [i])) (by rw [hlen, List.length_map, List.length_map]; exact ll) hR
      subst e
      have l2 := paired_len hcs
      refine ⟨p, D, _, _, rfl, rfl, sm _ _ ep, hD, ?_, fun r nr => ?_⟩
      · rw [List.length_map] at l2
        rw [List.length_map, List.length_map]
        exact szl (by omega)
      · have sr := same_new (o := .lst (bs.map V.ref ++ cs.map .ref)) nr
        refine ⟨r, _, _, rfl, Same.trans (Same.trans s3 sm) sr, bs ++ cs, ?_, ?_⟩
        · rw [upd_same, List.map_append]
        · exact paired_app ((hbs.same sm).same sr) (hcs.same sr)
  · rintro σ H3 ⟨p, y, z, rfl, s3, bs, ep, hbs⟩
    have hbs : TmsAt H3 bs (allT m) := hbs
    obtain ⟨len, small⟩ := allT_small hm
    have ll := paired_len hbs
    refine ⟨_, rfl, p, rfl, ⟨_, SqL.of ep⟩, fun D nD => lcLt (SqL.of ep) (fun Hh i o => ∃ t, (allT m)[i]? = some t ∧ ((decide (t.length ≤ k) = true ∧ ∃ b, o = some (.ref b) ∧ TmAt Hh b t) ∨ (decide (t.length ≤ k) = false ∧ o = none))) nD (by rw [List.length_map]; omega)
      (fun Ha Hb i o tp ⟨t, z1, z2⟩ => ⟨t, z1, z2.imp (fun ⟨z3, b', z4, z5⟩ => ⟨z3, b', z4, z5.tups tp⟩) id⟩) (fun i H4 x Qy Qn hx sm k1 k2 => ?_) (fun H4 os sm hlen hR hD => ?_)⟩
    · obtain ⟨d, u, _, e1, rfl, hd⟩ := po_get hbs hx
      have hd4 := hd.same sm
      refine ⟨rfl, _, rfl, d, _, rfl, .inr (SqT.of hd4), _, rfl, u.length, k, congrArg V.int (by rw [List.length_map]), rfl, _, rfl, ?_⟩
      by_cases ho : u.length ≤ k
      · rw [decide_eq_true ho]
        exact iteT ⟨_, rfl, k1 _ _ (Same.refl _) ⟨u, e1, .inl ⟨decide_eq_true ho, d, rfl, hd4⟩⟩⟩
      · rw [decide_eq_false ho]
        exact iteF (k2 _ (Same.refl _) ⟨u, e1, .inr ⟨decide_eq_false ho, rfl⟩⟩)
    · obtain ⟨cs, e5, hcs⟩ := odd_are (g := fun t => decide (t.length ≤ k)) (by rw [hlen, List.length_map]; exact ll) hR
      rw [e5] at hD
      have lf := List.length_filter_le (fun t : List Nat => decide (t.length ≤ k)) (allT m)
      refine ⟨D, cs, _, rfl, SqL.of hD, hcs, by omega, fun t ht => ?_, tabs_same (Same.trans s3 sm) hT, fun H5 r es eN T5 nr hes => ?_⟩
      · have := small t (List.mem_filter.mp ht).1
        omega
      · have sr := same_new (o := .lst (es.map V.ref)) nr
        exact q _ r (((extN_same (Same.trans s3 sm)).trans eN).trans (extN_same sr)) (tabs_same sr T5) ⟨es, upd_same, hes.same sr⟩
end
end YN
set_option Elab.async false
set_option linter.all false
set_option maxRecDepth 100000
set_option maxHeartbeats 4000000
namespace YN
open PySem PySem.Spec PyProof.Rows L2
theorem sc_law_poly : FnScope ["_law_state", "_law_many_here", "_law_most", "_law_some", "_law_term", "_law_bit"] ["_law_state", "_law_many_here", "_law_most"] (defScope s_law_poly) := ⟨rfl, rfl, rfl, by decide +kernel, rfl, by decide +kernel, by decide +kernel⟩
section
variable {P : Program} {w : World} {K : PySem.W.Frag} {mg : Str → Option Value} {base : Heap}
theorem tabs_keep {T : List (Addr × Str)} {H H' : Hp} {c : Addr} {n : Nat} (k : Keep c H H') (st : StAt H c n) (h : LamX.Tabs T H) : LamX.Tabs T H' := fun p hp => by
  obtain ⟨x, y, z, e, _⟩ := st
  obtain ⟨ps, h1, h2, h3⟩ := h p hp
  refine ⟨ps, k _ _ (ne_of h1 e (by intro z; cases z)) h1, h2, fun pos cv hc => ?_⟩
  obtain ⟨d, e1, e2⟩ := h3 pos cv hc
  exact ⟨d, e1, k _ _ (ne_of e2 e (by intro z; unfold LamX.CodeO at z; cases z)) e2⟩
theorem StAt.ext {H H' : Hp} {c : Addr} {n : Nat} (s : LamX.ExtN H H') (h : StAt H c n) : StAt H' c n := by
  obtain ⟨x, y, z, e, hz⟩ := h
  exact ⟨x, y, z, s _ _ e (by intro ps z; cases z), hz⟩
theorem refs_ne {H : Hp} {c p : Addr} {n : Nat} {bs : List Addr} (st : StAt H c n) (h : H p = some (.lst (bs.map .ref))) : p ≠ c := fun z => by
  obtain ⟨x, y, u, e, _⟩ := st
  rw [z, e] at h
  have h : [vn x, vn y, vn u] = bs.map V.ref := HO.lst.inj (Option.some.inj h)
  cases bs with
  | nil => cases h
  | cons b bs => exact absurd (List.cons.inj h).1 (by intro z; cases z)
/-- the terms that a comprehension takes -/
theorem sub_are {H : Hp} : ∀ {os : List (Option V)} {L : List (List Nat)}, os.length = L.length → (∀ (i : Nat) (o : Option V), os[i]? = some o → ∃ t, L[i]? = some t ∧ (o = none ∨ ∃ b, o = some (.ref b) ∧ TmAt H b t)) →
    ∃ (bs : List Addr) (R : List (List Nat)), os.filterMap id = bs.map .ref ∧ TmsAt H bs R ∧ R.Sublist L
  | [], [], _, _ => ⟨[], [], rfl, .nil, .slnil⟩
  | [], _ :: _, h, _ => by simp at h
  | _ :: _, [], h, _ => by simp at h
  | o :: os, t :: L, hl, h => by
    obtain ⟨t', e1, e2⟩ := h 0 o rfl
    obtain rfl : t = t' := Option.some.inj e1
    obtain ⟨bs, R, e4, r, sl⟩ := sub_are (os := os) (L := L) (by simpa using hl) fun i o' h' => h (i + 1) o' (by simpa using h')
    rcases e2 with rfl | ⟨b, rfl, hb⟩
    · exact ⟨bs, R, by rw [List.filterMap_cons, e4]; rfl, r, sl.cons _⟩
    · exact ⟨b :: bs, t :: R, by rw [List.filterMap_cons, e4]; rfl, .cons hb r, sl.cons₂ _⟩
def spLawPoly (tb : Addr) : Sp := spG (fun a : Addr × Nat × Nat × Nat => [.ref a.1, vn a.2.1, vn a.2.2.1]) fun a H Q => StAt H a.1 a.2.2.2 ∧ a.2.1 ≤ 6 ∧ a.2.2.2 ≤ 900000 ∧ LamX.Tabs (lamT tb) H ∧ ∀ H' p R, Tups H H' → StAt H' a.1 (a.2.2.2 + 66) → LamX.Tabs (lamT tb) H' → PolyOk a.2.1 R → PoAt H' p R → Q (.ref p) H'
theorem dn_law_poly (T : Txt K mg) {c tb : Addr} (hc : ∃ f fd, FnP K "_law_terms" s_law_terms f fd ∧ mg "_law_terms" = some (.ref f) ∧ fd.code = .ref c) (TB : LamX.TabB base mg c tb) : Dn P w K mg base "_law_poly" 4 ["_law_state", "_law_many_here", "_law_most"] (spLawPoly tb) := by
  refine dnG (N := ["_law_state", "_law_many_here", "_law_most", "_law_some", "_law_term", "_law_bit"]) T.d_law_poly sc_law_poly (fun f fd F => FunD.bindsN (ps := ["_law_state", "_law_many_here", "_law_most"]) F fun _ _ _ _ _ _ us hl => match us, hl with | [_, _, _], _ => rfl) (fun _ => rfl) (fun f cdv A outer s H a Q E hr h => ?_)
  obtain ⟨c', m, k, n⟩ := a
  obtain ⟨hs, hm, hn, hT, q⟩ := h
  have hs : StAt H c' n := hs
  have hm : m ≤ 6 := hm
  have hn : n ≤ 900000 := hn
  have q : ∀ H' p R, Tups H H' → StAt H' c' (n + 66) → LamX.Tabs (lamT tb) H' → PolyOk m R → PoAt H' p R → Q (.ref p) H' := q
  refine ⟨_, pss_cons (ps_set (i := 3) sc_law_poly.nd rfl (.inl rfl) (pe_dn (dn_law_terms T hc TB) hr (by rfl) (pa_cons (pv 1) (pa_cons (pv 2) pa_nil))))
    (pss_one (ps_ret (pe_callTy call_tuple_of (by rfl) T.n_tuple (by decide +kernel) (pa_cons (pe_lc (own := [("_law_term", 4), ("_law_bit", 5)]) (by rfl) sc_law_poly.nd (pi_zip (by rfl) T.n_zip (pa_cons (pv 3) (pa_cons (pe_dn (dn_law_bits T) (hr.mono (by decide)) (by rfl) (pa_cons (pv 0) (pa_cons (pe_callB call_len_seq (by rfl) T.n_len (by decide +kernel) (pa_cons (pv 3) pa_nil)) pa_nil))) pa_nil))) (blkOk_by (N := ["_law_state", "_law_many_here", "_law_most", "_law_some", "_law_term", "_law_bit"]) (sc := defScope s_law_poly) (by decide +kernel))
      (fun _ _ _ _ _ => pg_tupK (K := K) (n := 2) rfl rfl (pgs_cons (pg_name (i := 4) sc_law_poly.nd rfl (.inl rfl)) (pgs_cons (pg_name (i := 5) sc_law_poly.nd rfl (.inl rfl)) pgs_nil)))
      (fun _ _ _ _ _ => pts_one (pt_cmpR eqN (pv 5) pe_int (nomark _))) (fun _ _ _ _ _ => pv 4)) pa_nil)))), ?_⟩
  refine ⟨_, rfl, _, rfl, (m, k), rfl, hm, hT, fun H1 p1 eN T1 pl1 => ?_⟩
  have pok := terms_ok (m := m) (fun t => decide (t.length ≤ k))
  have tl := terms_len hm (fun t => decide (t.length ≤ k))
  obtain ⟨bs, ep, hbs⟩ := pl1
  have hbs : TmsAt H1 bs (srt ((allT m).filter fun t => decide (t.length ≤ k))) := hbs
  revert pok tl hbs
  generalize srt ((allT m).filter fun t => decide (t.length ≤ k)) = L
  intro pok tl hbs
  have ll := paired_len hbs
  have st1 := hs.ext eN
  have np1 := refs_ne st1 ep
  refine ⟨_, rfl, _, rfl, _, rfl, p1, _, rfl, .inl (SqL.of ep), ?_⟩
  refine ⟨(c', bs.length, n), congrArg (fun v => [V.ref c', v]) (congrArg V.int (by rw [List.length_map])), st1, by show bs.length ≤ 64; omega, hn, fun H2 p2 ds k2 st2 hp2 hlen hbit => ?_⟩
  have k2 : Keep c' H1 H2 := k2
  have st2 : StAt H2 c' (n + 66) := st2
  have hlen : ds.length = bs.length := hlen
  have tp2 := st1.tups k2
  have ep2 := k2 _ _ np1 ep
  have hbs2 := hbs.tups tp2
  refine ⟨p1, p2, bs.map .ref, vns ds, rfl, SqL.of ep2, SqL.of hp2, fun D nD => ?_⟩
  have wz := walk_zip (K := K) (a := p1) (b := p2) (xs := bs.map V.ref) (ys := vns ds) (n := L.length) (by rw [List.length_map, List.length_map]; omega)
  refine lc_go (n := L.length) (fun Hh i o => ∃ t, L[i]? = some t ∧ (o = none ∨ ∃ b, o = some (.ref b) ∧ TmAt Hh b t)) nD (by omega) (fun Ha Hb i o tp ⟨t, z1, z2⟩ => ⟨t, z1, z2.imp id fun ⟨b, z4, z5⟩ => ⟨b, z4, z5.tups tp⟩⟩)
    (fun i H3 hi sm => wz.goes i H3 hi ⟨same_sq sm (SqL.of ep2), same_sq sm (SqL.of hp2)⟩) (fun H3 sm => wz.stops H3 ⟨same_sq sm (SqL.of ep2), same_sq sm (SqL.of hp2)⟩) (fun i H3 v H4 Qy Qn hi sm hy k3 k4 => ?_) (fun H3 os sm hlen2 hR hD => ?_)
  · obtain ⟨U, x, y, rfl, nU, rfl, ex, ey⟩ := wz.yields i H3 v H4 hi ⟨same_sq sm (SqL.of ep2), same_sq sm (SqL.of hp2)⟩ hy
    obtain ⟨d, u, _, e1, rfl, hd⟩ := po_get hbs2 ex
    obtain ⟨e, e2, rfl⟩ := vns_get ey
    have sU := same_new (o := .tup [.ref d, vn e]) nU
    refine ⟨U, _, rfl, SqT.of upd_same, rfl, _, _, rfl, _, _, rfl, rfl, rfl, ?_⟩
    refine ⟨_, rfl, e, 1, rfl, rfl, _, rfl, ?_⟩
    by_cases ho : e = 1
    · rw [decide_eq_true ho]
      refine iteT ⟨_, rfl, k3 _ _ sU ⟨u, e1, .inr ⟨d, rfl, (hd.same sm).same sU⟩⟩⟩
    · rw [decide_eq_false ho]
      exact iteF (k4 _ sU ⟨u, e1, .inl rfl⟩)
  · obtain ⟨es, R, e5, hes, sl⟩ := sub_are hlen2 hR
    rw [e5] at hD
    refine ⟨D, _, rfl, .inl ⟨SqL.of hD, fun l nl => ?_⟩⟩
    have s3 := Same.trans sm (same_new (o := .tup (es.map V.ref)) nl)
    exact q _ l R ((ExtN.tups eN).trans (tp2.trans (same_tups s3))) (st2.same s3) (tabs_same s3 (tabs_keep k2 st1 T1)) (pok.sub sl) ⟨es, upd_same, hes.same (same_new nl)⟩
end
end YN
set_option Elab.async false
set_option linter.all false
set_option maxRecDepth 100000
set_option maxHeartbeats 4000000
namespace YN
open PySem PySem.Spec PyProof.Rows L2
theorem sc_law_word_right : FnScope ["_law_many_here", "_law_word_here", "_law_poly_here", "_law_told", "_law_places", "_law_letter", "_law_term"] ["_law_many_here", "_law_word_here"] (defScope s_law_word_right) := ⟨rfl, rfl, rfl, by decide +kernel, rfl, by decide +kernel, by decide +kernel⟩
section
variable {X : Cx} {K : PySem.W.Frag} {tg : Expr}
theorem pi_tupK (h : X.K = K) {l : Expr} {tl : TE} (hl : PE X l tl) : PI X tg l (iTup K tl) := by rw [← h]; exact pi_tup hl
end
section
variable {P : Program} {w : World} {K : PySem.W.Frag} {mg : Str → Option Value} {base : Heap}
theorem sorted_nats {ns : List Int} {l : List Nat} (h : ns.Perm (l.map fun n : Nat => (n : Int))) (hs : ns.Pairwise (· ≤ ·)) : ∃ r : List Nat, ns = r.map (fun n : Nat => (n : Int)) ∧ r.Perm l ∧ r.Pairwise (· ≤ ·) := by
  have hp : ∀ x ∈ ns, ∃ n : Nat, x = (n : Int) := fun x hx => by
    obtain ⟨n, _, e⟩ := List.mem_map.mp (h.mem_iff.mp hx)
    exact ⟨n, e.symm⟩
  have e : ns = (ns.map Int.toNat).map fun n : Nat => (n : Int) := by
    rw [List.map_map]
    conv => lhs; rw [← List.map_id ns]
    refine List.map_congr_left fun x hx => ?_
    obtain ⟨n, rfl⟩ := hp x hx
    rfl
  refine ⟨ns.map Int.toNat, e, ?_, ?_⟩
  · have h2 := h.map Int.toNat
    rw [List.map_map] at h2
    have e2 : l.map (Int.toNat ∘ fun n : Nat => (n : Int)) = l := by
      conv => rhs; rw [← List.map_id l]
      exact List.map_congr_left fun x _ => rfl
    rw [e2] at h2
    exact h2
  · rw [List.pairwise_map]
    exact hs.imp fun {a b} q => by omega
theorem eqv_lD (t u : List Nat) : PyData.eqv (.list (t.map iD)) (.list (u.map iD)) = decide (t = u) := by
  have h : PyData.eqv (.list (t.map iD)) (.list (u.map iD)) = PyData.eqvAll (t.map iD) (u.map iD) := by simp [PyData.eqv]
  rw [h, eqvAll_ints]
theorem shaped_lD (t : List Nat) : SeqAt.shaped (.list (t.map iD)) = true := by
  have h : (PyData.list (t.map iD)).canLay0 = PyData.canLayAll0 (t.map iD) := by simp [PyData.canLay0]
  have d : (PyData.list (t.map iD)).depth = PyData.depthAll (t.map iD) + 1 := by simp [PyData.depth, Nat.add_comm]
  have d2 : (PyData.list (t.map iD)).depth = 1 := by rw [d, iDs, PySem.W.depth_ints]
  unfold SeqAt.shaped
  rw [h, lay_iD, d2]
  rfl
def outC : Scope := { kind := .function, names := [(".0", .local), ("_law_term", .local), ("sum", .globalImplicit)], isGenerator := false, isCoroutine := false }
def spWordRight : Sp := spG (fun a : Nat × Nat => [vn a.1, vn a.2]) fun a H Q => a.1 ≤ 6 ∧ a.2 < 2 ^ 2 ^ a.1 ∧ ∀ H', Same H H' → Q (.bl true) H'
theorem dn_law_word_right (T : Txt K mg) : Dn P w K mg base "_law_word_right" 6 ["_law_many_here", "_law_word_here"] spWordRight := by
  refine dnG (N := ["_law_many_here", "_law_word_here", "_law_poly_here", "_law_told", "_law_places", "_law_letter", "_law_term"]) T.d_law_word_right sc_law_word_right (fun f fd F => FunD.bindsN (ps := ["_law_many_here", "_law_word_here"]) F fun _ _ _ _ _ _ us hl => match us, hl with | [_, _], _ => rfl) (fun _ => rfl) (fun f cdv A outer s H a Q E hr h => ?_)
  obtain ⟨m, n⟩ := a
  obtain ⟨hm, hw, q⟩ := h
  have hm : m ≤ 6 := hm
  have hw : n < 2 ^ 2 ^ m := hw
  have hu := hr.units
  refine ⟨_, pss_cons (ps_set (i := 2) sc_law_word_right.nd rfl (.inl rfl) (pe_dn (dn_poly_of T) hr (by rfl) (pa_cons (pv 0) (pa_cons (pv 1) pa_nil))))
    (pss_cons (ps_if (PW.pt (pw_or (pt_not (pt_val (pe_dn (dn_is_poly T) (hr.mono (by decide)) (by rfl) (pa_cons (pv 0) (pa_cons (pv 2) pa_nil)))))
      (pw_or (pt_cmpR neN (pe_dn (dn_word_of T) (hr.mono (by decide)) (by rfl) (pa_cons (pv 0) (pa_cons (pv 2) pa_nil))) (pv 1) (nomark _))
      (pw_or1 (pt_cmpR op_gt (pe_dn (dn_degree T) (hr.mono (by decide)) (by rfl) (pa_cons (pv 2) pa_nil)) (pv 0) (nomark _)))))) (pss_one (ps_ret pe_bl)) pss_nil)
    (pss_cons (ps_set (i := 3) sc_law_word_right.nd rfl (.inl rfl) (pe_dn (dn_steps T) (hr.mono (by decide)) (by rfl) (pa_cons (pv 0) (pa_cons (pv 1) pa_nil))))
    (pss_cons (ps_if (PW.pt (pw_or (pt_cmpR op_notBl (pe_dn (dn_shows_steps T) (hr.mono (by decide)) (by rfl) (pa_cons (pv 0) (pa_cons (pv 1) (pa_cons (pv 3) pa_nil)))) pe_bl (nomark _))
      (pw_or1 (pt_cmpR neN (pe_callB call_len_seq (by rfl) T.n_len (by decide +kernel) (pa_cons (pe_dn (dn_where T) (hr.mono (by decide)) (by rfl) (pa_cons (pe_ix ix_tup (pv 3) (pe_un un_neg pe_int) (fun _ _ => rfl)) pa_nil)) pa_nil)) (pe_callB call_len_seq (by rfl) T.n_len (by decide +kernel) (pa_cons (pv 2) pa_nil)) (nomark _))))) (pss_one (ps_ret pe_bl)) pss_nil)
    (pss_cons (ps_set (i := 4) sc_law_word_right.nd rfl (.inl rfl) (pe_callB cr_sortedI (by rfl) T.n_sorted (by decide +kernel) (pa_cons (pe_lc (own := [("_law_term", 6)]) (by rfl) sc_law_word_right.nd (pi_tup (pv 2)) (blkOk_by (N := ["_law_many_here", "_law_word_here", "_law_poly_here", "_law_told", "_law_places", "_law_letter", "_law_term"]) (sc := defScope s_law_word_right) (by decide +kernel)) (fun _ _ _ _ _ => pg_name (i := 6) sc_law_word_right.nd rfl (.inl rfl)) (fun _ _ _ _ _ => pts_nil)
      (fun _ _ _ _ _ => pe_callB (cr_sumK (K := K) rfl rfl) (by rfl) T.n_sum (by decide +kernel) (pa_cons (pe_lc (own := [("_law_letter", 5)]) (by rfl) sc_law_word_right.nd (pi_tupK (K := K) rfl (pv 6)) (blkOk_by (N := ["_law_many_here", "_law_word_here", "_law_poly_here", "_law_told", "_law_places", "_law_letter", "_law_term"]) (sc := outC) (by decide +kernel)) (fun _ _ _ _ _ => pg_name (i := 5) sc_law_word_right.nd rfl (.inl rfl)) (fun _ _ _ _ _ => pts_nil)
        (fun _ _ _ _ _ => pe_op shlN pe_int (pv 5))) pa_nil))) pa_nil)))
    (pss_one (ps_ret (pe_cmpR (op_eqD hu) (pe_callTy call_list_of (by rfl) T.n_list (by decide +kernel) (pa_cons (pe_dn (dn_where T) (hr.mono (by decide)) (by rfl) (pa_cons (pe_ix ix_tup (pv 3) (pe_un un_neg pe_int) (fun _ _ => rfl)) pa_nil)) pa_nil)) (pv 4) (nomark _)))))))), ?_⟩
  refine ⟨_, rfl, _, rfl, (m, n), rfl, hm, hw, fun H1 p s1 hp => ?_⟩
  have hp : PoAt H1 p (polyOf m n) := hp
  have ok := polyOf_ok hm hw
  have lp := polyOk_len hm ok
  have hz := zeta_lt hm hw
  have bl := bits_len (zeta m n)
  refine ⟨_, rfl, _, rfl, (m, p, polyOf m n), rfl, hm, hp, ok, fun H2 s2 => ?_⟩
  have hp2 := hp.same s2
  refine ⟨true, rfl, iteF ?_⟩
  refine ⟨_, rfl, _, rfl, (m, p, polyOf m n), rfl, hm, hp2, ok, fun H3 s3 => ?_⟩
  have hp3 := hp2.same s3
  refine ⟨_, rfl, wordOf m (polyOf m n), n, rfl, rfl, false, ?_, iteF ?_⟩
  · show V.bl (!decide (wordOf m (polyOf m n) = n)) = _
    rw [word_poly hm hw]
    exact neq_same n
  refine ⟨_, rfl, (p, polyOf m n), rfl, hp3, by show (polyOf m n).length ≤ 1000; omega, fun H4 s4 => ?_⟩
  have hp4 := hp3.same s4
  refine ⟨_, rfl, deg (polyOf m n), m, rfl, rfl, false, ?_, iteF ?_⟩
  · have := deg_term ok.2
    exact congrArg V.bl (decide_eq_false (by omega))
  refine ⟨_, rfl, _, rfl, (m, n), rfl, hm, hw, fun H5 q5 s5 hq5 => ?_⟩
  have hp5 := hp4.same s5
  have hq5 : H5 q5 = some (.tup (vns (stepsL m n))) := hq5
  refine ⟨_, rfl, _, rfl, _, rfl, (m, n, q5), rfl, hm, hw, hq5, fun H6 s6 => ?_⟩
  have hp6 := hp5.same s6
  have hq6 := s6 _ _ hq5
  refine ⟨true, true, rfl, rfl, false, rfl, iteF ?_⟩
  refine ⟨_, rfl, 1, rfl, q5, _, _, _, rfl, rfl, SqT.of hq6, vns_last _ m, zeta m n, rfl, two64 hm hz, fun H7 p7 s7 hp7 => ?_⟩
  have hpo7 := hp6.same s7
  obtain ⟨bs, eb, hbs⟩ := id hpo7
  have ll := paired_len hbs
  have pl := poly_len hm hw
  refine ⟨p7, _, rfl, .inr (SqT.of hp7), _, rfl, p, _, rfl, .inr (SqT.of eb), (bits (zeta m n)).length, (polyOf m n).length, congrArg V.int (by rw [List.length_map]), congrArg V.int (by rw [List.length_map, ll]), false, ?_, iteF ?_⟩
  · show V.bl (!decide ((bits (zeta m n)).length = (polyOf m n).length)) = _
    rw [pl]
    exact neq_same _
  refine ⟨_, rfl, p, rfl, ⟨_, SqT.of eb⟩, fun D nD => lcT (SqT.of eb) (fun _ i y => ∃ n' : Nat, (pls (polyOf m n))[i]? = some n' ∧ y = vn n') nD (by rw [List.length_map]; omega) (fun _ _ _ _ _ z => z) (fun i H8 x Qy hx sm k => ?_) (fun H8 ys sm hlen hR hD => ?_) (gName_mono 6)⟩
  · obtain ⟨d, u, _, e1, rfl, hd⟩ := po_get hbs hx
    have oku := ok.2 u (List.mem_of_getElem? e1)
    have hd8 := hd.same sm
    have lu := oku.len
    refine ⟨rfl, _, rfl, d, rfl, ⟨_, SqT.of hd8⟩, fun D2 nD2 => lcT (SqT.of hd8) (fun _ i y => ∃ q : Nat, u[i]? = some q ∧ y = vn (2 ^ q)) nD2 (by rw [List.length_map]; omega) (fun _ _ _ _ _ z => z) (fun j H9 x Qy2 hx sm2 k2 => ?_) (fun H9 ys sm2 hlen hR hD => ?_) (gName_mono 5)⟩
    · obtain ⟨b, e2, rfl⟩ := vns_get hx
      have := oku.2 b (List.mem_of_getElem? e2)
      refine ⟨rfl, _, rfl, 1, b, rfl, rfl, ⟨by decide, by omega⟩, ?_⟩
      exact k2 _ _ (Same.refl _) ⟨b, e2, congrArg vn (shl_one b)⟩
    · refine ⟨D2, pows u, rfl, ?_, ?_⟩
      · rw [← pows_of hlen hR]
        exact SqL.of hD
      · rw [sum_pows]
        refine k _ _ sm2 ⟨wat u, ?_, rfl⟩
        rw [List.getElem?_map, e1]
        rfl
  · have e := nums_are (l := pls (polyOf m n)) (by rw [hlen, List.length_map, List.length_map]; exact ll) hR
    subst e
    rw [vns_int] at hD
    refine ⟨D, _, rfl, SqL.of hD, fun ns' r hperm hsort nr => ?_⟩
    obtain ⟨rs, rfl, hperm2, hsort2⟩ := sorted_nats hperm hsort
    have er := places_sorted hm hw hperm2 hsort2
    subst er
    have sr := same_new (o := .lst (((bits (zeta m n)).map fun n : Nat => (n : Int)).map V.int)) nr
    have hr9 : upd H8 r (.lst (((bits (zeta m n)).map fun n : Nat => (n : Int)).map V.int)) r = some (.lst (vns (bits (zeta m n)))) := by rw [upd_same, vns_int]
    have sAll := Same.trans (Same.trans s7 sm) sr
    have hq9 := sAll _ _ hq6
    refine ⟨_, rfl, 1, rfl, q5, _, _, _, rfl, rfl, SqT.of hq9, vns_last _ m, zeta m n, rfl, two64 hm hz, fun H10 p10 s10 hp10 => ?_⟩
    refine ⟨p10, _, rfl, .inr (SqT.of hp10), fun l nl => ?_⟩
    have sl := same_new (o := .lst (vns (bits (zeta m n)))) nl
    have hr11 := sl _ _ (s10 _ _ hr9)
    refine ⟨_, rfl, .list ((bits (zeta m n)).map iD), .list ((bits (zeta m n)).map iD), .lst (SqL.of upd_same) (dpAll_iD _), .lst (SqL.of hr11) (dpAll_iD _), ?_, ?_, ?_⟩
    · exact shaped_lD _
    · exact shaped_lD _
    · rw [eqv_lD, decide_eq_true rfl]
      exact q _ (Same.trans (Same.trans (Same.trans (Same.trans (Same.trans (Same.trans (Same.trans s1 s2) s3) s4) s5) s6) sAll) (Same.trans s10 sl))
end
end YN
set_option Elab.async false
set_option linter.all false
set_option maxRecDepth 100000
set_option maxHeartbeats 4000000
namespace YN
open PySem PySem.Spec PyProof.Rows L2
theorem sc_law_together_right : FnScope ["_law_many_here", "_law_one", "_law_other", "_law_first", "_law_second", "_law_both", "_law_product", "_law_place"] ["_law_many_here", "_law_one", "_law_other"] (defScope s_law_together_right) := ⟨rfl, rfl, rfl, by decide +kernel, rfl, by decide +kernel, by decide +kernel⟩
section
variable {P : Program} {w : World} {K : PySem.W.Frag} {mg : Str → Option Value} {base : Heap}
theorem noPart {σ : L2.St} {H : Hp} {Q : Option Int → Hp → Prop} (h : Q none H) : tNoPart σ H Q := h
theorem po_to {H : Hp} {a : Addr} {P : List (List Nat)} {Q : VK} (n : Nat) (h : PoAt H a P) (k : ∀ b H1, Same H H1 → PoAt H1 b (P.take n) → Q (.ref b) H1) : rSlA K (.ref a) none (some (n : Int)) H Q := by
  obtain ⟨bs, e, hb⟩ := id h
  refine ⟨a, _, rfl, SqT.of e, fun hw => ?_, fun _ p np => ?_⟩
  · refine k a H (Same.refl _) ?_
    have h1 := hw.2
    rw [HT.sIx_nat, List.length_map, paired_len hb] at h1
    rw [List.take_of_length_le (by omega)]
    exact h
  · refine k p _ (same_new np) ⟨bs.take n, ?_, paired_take n (hb.same (same_new np))⟩
    rw [upd_same, cut_to, List.map_take]
def spTogether : Sp := spG (fun a : Nat × Addr × List (List Nat) × Addr × List (List Nat) => [vn a.1, .ref a.2.1, .ref a.2.2.2.1]) fun a H Q => a.1 ≤ 6 ∧ PoAt H a.2.1 a.2.2.1 ∧ PoAt H a.2.2.2.1 a.2.2.2.2 ∧ PolyOk a.1 a.2.2.1 ∧ PolyOk a.1 a.2.2.2.2 ∧ ∀ H', Same H H' → Q (.bl true) H'
theorem dn_law_together_right (T : Txt K mg) : Dn P w K mg base "_law_together_right" 7 ["_law_many_here", "_law_one", "_law_other"] spTogether := by
  refine dnG (N := ["_law_many_here", "_law_one", "_law_other", "_law_first", "_law_second", "_law_both", "_law_product", "_law_place"]) T.d_law_together_right sc_law_together_right (fun f fd F => FunD.bindsN (ps := ["_law_many_here", "_law_one", "_law_other"]) F fun _ _ _ _ _ _ us hl => match us, hl with | [_, _, _], _ => rfl) (fun _ => rfl) (fun f cdv A outer s H a Q E hr h => ?_)
  obtain ⟨m, a, P, b, R⟩ := a
  obtain ⟨hm, ha, hb, ok1, ok2, q⟩ := h
  have hm : m ≤ 6 := hm
  have ha : PoAt H a P := ha
  have hb : PoAt H b R := hb
  have ok1 : PolyOk m P := ok1
  have ok2 : PolyOk m R := ok2
  have hu := hr.units
  refine ⟨_, pss_cons (ps_asg (pe_tup (pa_cons (pe_dn (dn_word_of T) (hr.mono (by decide)) (by rfl) (pa_cons (pv 0) (pa_cons (pv 1) pa_nil))) (pa_cons (pe_dn (dn_word_of T) (hr.mono (by decide)) (by rfl) (pa_cons (pv 0) (pa_cons (pv 2) pa_nil))) pa_nil)))
      (pg_tupK (K := K) (n := 2) rfl rfl (pgs_cons (pg_name (i := 3) sc_law_together_right.nd rfl (.inr rfl)) (pgs_cons (pg_name (i := 4) sc_law_together_right.nd rfl (.inl rfl)) pgs_nil))))
    (pss_cons (ps_par (i := 5) (j := 6) rfl sc_law_together_right.nd rfl rfl (by decide) rfl rfl (pa_cons (pe_dn (dn_poly_sum T) hr (by rfl) (pa_cons (pv 1) (pa_cons (pv 2) pa_nil))) (pa_cons (pe_dn (dn_poly_product T) hr (by rfl) (pa_cons (pe_slice sl_tupA (pv 1) po_none (po_some pe_int)) (pa_cons (pe_slice sl_tupA (pv 2) po_none (po_some pe_int)) pa_nil))) pa_nil)) (by rfl))
    (pss_cons (ps_if (PW.pt (pw_or (pt_cmpR neN (pe_dn (dn_word_of T) (hr.mono (by decide)) (by rfl) (pa_cons (pv 0) (pa_cons (pv 5) pa_nil))) (pe_dn (dn_plus T) (hr.mono (by decide)) (by rfl) (pa_cons (pv 3) (pa_cons (pv 4) pa_nil))) (nomark _))
      (pw_or1 (pt_cmpR (op_poNe hu) (pe_dn (dn_poly_of T) (hr.mono (by decide)) (by rfl) (pa_cons (pv 0) (pa_cons (pe_dn (dn_plus T) (hr.mono (by decide)) (by rfl) (pa_cons (pv 3) (pa_cons (pv 4) pa_nil))) pa_nil))) (pv 5) (nomark _))))) (pss_one (ps_ret pe_bl)) pss_nil)
    (pss_cons (ps_if (pt_cmpR neN (pe_dn (dn_word_of T) (hr.mono (by decide)) (by rfl) (pa_cons (pv 0) (pa_cons (pv 6) pa_nil)))
        (pe_dn (dn_times T) (hr.mono (by decide)) (by rfl) (pa_cons (pe_dn (dn_word_of T) (hr.mono (by decide)) (by rfl) (pa_cons (pv 0) (pa_cons (pe_slice sl_tupA (pv 1) po_none (po_some pe_int)) pa_nil))) (pa_cons (pe_dn (dn_word_of T) (hr.mono (by decide)) (by rfl) (pa_cons (pv 0) (pa_cons (pe_slice sl_tupA (pv 2) po_none (po_some pe_int)) pa_nil))) pa_nil))) (nomark _)) (pss_one (ps_ret pe_bl)) pss_nil)
    (pss_cons (ps_if (PW.pt (pw_or (pt_cmpR op_gt (pe_dn (dn_degree T) (hr.mono (by decide)) (by rfl) (pa_cons (pv 5) pa_nil)) (pe_callB (call_max2 rfl) (by rfl) T.n_max (by decide +kernel) (pa_cons (pe_dn (dn_degree T) (hr.mono (by decide)) (by rfl) (pa_cons (pv 1) pa_nil)) (pa_cons (pe_dn (dn_degree T) (hr.mono (by decide)) (by rfl) (pa_cons (pv 2) pa_nil)) pa_nil))) (nomark _))
      (pw_or1 (pt_cmpR op_gt (pe_dn (dn_degree T) (hr.mono (by decide)) (by rfl) (pa_cons (pv 6) pa_nil)) (pe_op op_add (pe_callB (call_max2 rfl) (by rfl) T.n_max (by decide +kernel) (pa_cons pe_int (pa_cons (pe_dn (dn_degree T) (hr.mono (by decide)) (by rfl) (pa_cons (pv 1) pa_nil)) pa_nil))) (pe_callB (call_max2 rfl) (by rfl) T.n_max (by decide +kernel) (pa_cons pe_int (pa_cons (pe_dn (dn_degree T) (hr.mono (by decide)) (by rfl) (pa_cons (pv 2) pa_nil)) pa_nil)))) (nomark _))))) (pss_one (ps_ret pe_bl)) pss_nil)
    (pss_one (ps_ret (pe_callB (cr_all rfl) (by rfl) T.n_all (by decide +kernel) (pa_cons (pe_lc (own := [("_law_place", 7)]) (by rfl) sc_law_together_right.nd (pi_range1 (by rfl) T.n_range (pa_cons (pe_op shlN pe_int (pv 0)) pa_nil)) (blkOk_by (N := ["_law_many_here", "_law_one", "_law_other", "_law_first", "_law_second", "_law_both", "_law_product", "_law_place"]) (sc := defScope s_law_together_right) (by decide +kernel)) (fun _ _ _ _ _ => pg_name (i := 7) sc_law_together_right.nd rfl (.inl rfl)) (fun _ _ _ _ _ => pts_nil)
      (fun _ _ _ _ _ => pe_cmpR eqN (pe_dn (dn_value T) (hr.mono (by decide)) (by rfl) (pa_cons (pv 1) (pa_cons (pv 7) pa_nil))) (pe_dn (dn_says T) (hr.mono (by decide)) (by rfl) (pa_cons (pv 3) (pa_cons (pv 7) pa_nil))) (nomark _))) pa_nil)))))))), ?_⟩
  refine ⟨_, rfl, _, rfl, (m, a, P), rfl, hm, ha, ok1, fun H1 s1 => ?_⟩
  have hb1 := hb.same s1
  refine ⟨_, rfl, _, rfl, (m, b, R), rfl, hm, hb1, ok2, fun H2 s2 => ?_⟩
  refine ⟨szl (Nat.le_of_ble_eq_true rfl), fun p np => ?_⟩
  have sp := same_new (o := .tup [vn (wordOf m P), vn (wordOf m R)]) np
  refine ⟨p, _, rfl, SqT.of upd_same, rfl, _, _, rfl, _, _, rfl, rfl, ?_⟩
  have sA := Same.trans (Same.trans s1 s2) sp
  have ha3 := ha.same sA
  have hb3 := hb.same sA
  refine ⟨_, rfl, _, rfl, (m, a, P, b, R), rfl, hm, ha3, hb3, ok1, ok2, fun H4 p4 B s4 oB hB => ?_⟩
  have hB : PoAt H4 p4 B := hB
  have oB : OddOf (P ++ R) B := oB
  have ha4 := ha3.same s4
  have hb4 := hb3.same s4
  refine ⟨_, rfl, ?_⟩
  refine noPart (σ := _) (H := _) ?_
  refine ⟨16, rfl, ?_⟩
  refine po_to 16 ha4 fun a5 H5 s5 ha5 => ?_
  refine ⟨_, rfl, ?_⟩
  refine noPart (σ := _) (H := _) ?_
  refine ⟨16, rfl, ?_⟩
  refine po_to 16 (hb4.same s5) fun b6 H6 s6 hb6 => ?_
  have ok1t := ok1.take 16
  have ok2t := ok2.take 16
  refine ⟨(m, a5, P.take 16, b6, R.take 16), rfl, hm, ha5.same s6, hb6, ok1t, ok2t, ⟨by show (P.take 16).length ≤ 16; rw [List.length_take]; omega, by show (R.take 16).length ≤ 16; rw [List.length_take]; omega⟩, fun H7 p7 D s7 oD hD => ?_⟩
  have hD : PoAt H7 p7 D := hD
  have oD : OddOf (prods (P.take 16) (R.take 16)) D := oD
  have s47 := Same.trans (Same.trans s5 s6) s7
  have hB7 := hB.same s47
  have ha7 := ha4.same s47
  have hb7 := hb4.same s47
  obtain ⟨okB, wB⟩ := sum_word hm ok1 ok2 oB
  obtain ⟨okD, wD⟩ := prod_word hm ok1t ok2t oD
  have wl := okB.word_lt hm
  refine ⟨_, _, rfl, ?_⟩
  refine ⟨_, rfl, _, rfl, (m, p4, B), rfl, hm, hB7, okB, fun H8 s8 => ?_⟩
  refine ⟨_, rfl, _, rfl, (wordOf m P, wordOf m R), rfl, wordOf m B, wordOf m P ^^^ wordOf m R, rfl, rfl, false, ?_, iteF ?_⟩
  · show V.bl (!decide (wordOf m B = wordOf m P ^^^ wordOf m R)) = _
    rw [wB]
    exact neq_same _
  refine ⟨_, rfl, _, rfl, _, rfl, (wordOf m P, wordOf m R), rfl, ?_⟩
  refine ⟨(m, wordOf m P ^^^ wordOf m R), rfl, hm, by show wordOf m P ^^^ wordOf m R < _; rw [← wB]; exact wl, fun H9 p9 s9 hp9 => ?_⟩
  have hp9 : PoAt H9 p9 (polyOf m (wordOf m P ^^^ wordOf m R)) := hp9
  rw [← wB, poly_word hm okB] at hp9
  have s79 := Same.trans s8 s9
  have hB9 := hB7.same s79
  refine ⟨_, rfl, p9, p4, B, B, rfl, rfl, hp9, hB9, false, ?_, iteF ?_⟩
  · rw [decide_eq_true rfl]
    rfl
  have hD9 := hD.same s79
  have ha9 := ha7.same s79
  have hb9 := hb7.same s79
  refine ⟨_, rfl, _, rfl, (m, p7, D), rfl, hm, hD9, okD, fun H10 s10 => ?_⟩
  refine ⟨_, rfl, _, rfl, ?_⟩
  refine noPart (σ := _) (H := _) ?_
  refine ⟨16, rfl, ?_⟩
  refine po_to 16 (ha9.same s10) fun a11 H11 s11 ha11 => ?_
  refine ⟨(m, a11, P.take 16), rfl, hm, ha11, ok1t, fun H12 s12 => ?_⟩
  refine ⟨_, rfl, _, rfl, ?_⟩
  refine noPart (σ := _) (H := _) ?_
  refine ⟨16, rfl, ?_⟩
  refine po_to 16 (((hb9.same s10).same s11).same s12) fun b13 H13 s13 hb13 => ?_
  refine ⟨(m, b13, R.take 16), rfl, hm, hb13, ok2t, fun H14 s14 => ?_⟩
  refine ⟨(wordOf m (P.take 16), wordOf m (R.take 16)), rfl, wordOf m D, wordOf m (P.take 16) &&& wordOf m (R.take 16), rfl, rfl, _, rfl, ?_⟩
  rw [wD, decide_eq_true rfl]
  refine iteF ?_
  have s914 := Same.trans (Same.trans (Same.trans (Same.trans s10 s11) s12) s13) s14
  have hB14 := hB9.same s914
  have hD14 := hD9.same s914
  have ha14 := ha9.same s914
  have hb14 := hb9.same s914
  have lP := polyOk_len hm ok1
  have lR := polyOk_len hm ok2
  have lB := polyOk_len hm okB
  have lD := polyOk_len hm okD
  refine ⟨_, rfl, (p4, B), rfl, hB14, by show B.length ≤ 1000; omega, fun H15 s15 => ?_⟩
  refine ⟨_, rfl, (a, P), rfl, ha14.same s15, by show P.length ≤ 1000; omega, fun H16 s16 => ?_⟩
  refine ⟨_, rfl, (b, R), rfl, (hb14.same s15).same s16, by show R.length ≤ 1000; omega, fun H17 s17 => ?_⟩
  have s1417 := Same.trans (Same.trans s15 s16) s17
  have ha17 := ha14.same s1417
  have hb17 := hb14.same s1417
  refine ⟨deg P, deg R, rfl, deg B, _, rfl, rfl, false, ?_, iteF ?_⟩
  · have := deg_sum oB
    exact congrArg V.bl (decide_eq_false (by omega))
  refine ⟨_, rfl, (p7, D), rfl, hD14.same s1417, by show D.length ≤ 1000; omega, fun H18 s18 => ?_⟩
  refine ⟨_, rfl, (a, P), rfl, ha17.same s18, by show P.length ≤ 1000; omega, fun H19 s19 => ?_⟩
  refine ⟨0, deg P, rfl, ?_⟩
  refine ⟨_, rfl, (b, R), rfl, (hb17.same s18).same s19, by show R.length ≤ 1000; omega, fun H20 s20 => ?_⟩
  refine ⟨0, deg R, rfl, _, _, rfl, rfl, deg D, _, rfl, rfl, false, ?_, iteF ?_⟩
  · have := deg_prod hm ok1.2 ok2.2 oD
    exact congrArg V.bl (decide_eq_false (by omega))
  have s1720 := Same.trans (Same.trans s18 s19) s20
  have ha20 := ha17.same s1720
  have p64 := pow_le64 hm
  have e1 : 1 <<< m = 2 ^ m := shl_one m
  have z0 : (0 : Int) ≤ ((1 <<< m : Nat) : Int) := Int.natCast_nonneg _
  have z1 : ((1 <<< m : Nat) : Int) ≤ ((64 : Nat) : Int) := Int.ofNat_le.mpr (by rw [e1]; exact p64)
  refine ⟨_, rfl, 1, m, rfl, rfl, ⟨by decide, by omega⟩, ((1 <<< m : Nat) : Int), rfl, by generalize ((1 <<< m : Nat) : Int) = z at z0 z1 ⊢; omega, by generalize ((1 <<< m : Nat) : Int) = z at z0 z1 ⊢; omega, fun D2 nD2 => lcRN (fun _ _ y => y = .bl true) nD2 (by rw [Int.toNat_natCast]; omega) (fun _ _ _ _ _ z => z) (fun i H21 Qy hi sm k => ?_) (fun H21 ys sm hlen hR hD2 => ?_) (gName_mono 7)⟩
  · have hi : i < 2 ^ m := by rw [Int.toNat_natCast, e1] at hi; exact hi
    refine ⟨rfl, _, rfl, _, rfl, (m, a, P, i), rfl, hm, ha20.same sm, ok1.2, by show P.length ≤ 1000; omega, fun H22 s22 => ?_⟩
    refine ⟨_, rfl, _, rfl, (wordOf m P, i), rfl, _, _, rfl, rfl, k _ _ s22 ?_⟩
    exact congrArg V.bl (decide_eq_true (by show (pval P i).toNat = ((wordOf m P).testBit i).toNat; rw [word_bit hm ok1 hi]))
  · have e2 := trues_are hlen hR
    subst e2
    refine ⟨D2, _, rfl, SqL.of hD2, ?_⟩
    rw [all_trues]
    exact q _ (Same.trans (Same.trans (Same.trans (Same.trans (Same.trans (Same.trans (Same.trans sA s4) s47) s79) s914) s1417) s1720) sm)
end
end YN
set_option Elab.async false
set_option linter.all false
set_option maxRecDepth 100000
set_option maxHeartbeats 4000000
namespace YN
open PySem PySem.Spec PyProof.Rows L2
theorem sc_law : FnScope ["_law_script", "_law_state", "_law_k", "_law_many_here", "_law_one", "_law_other", "_law_word_here", "_law_few", "_law_polys", "_law_poly_here"] ["_law_script"] (defScope s_law) := ⟨rfl, rfl, rfl, by decide +kernel, rfl, by decide +kernel, by decide +kernel⟩
section
variable {P : Program} {w : World} {K : PySem.W.Frag} {mg : Str → Option Value} {base : Heap}
theorem PoAt.tups {H H' : Hp} {a : Addr} {ts : List (List Nat)} (s : Tups H H') (h : PoAt H a ts) : PoAt H' a ts := by
  obtain ⟨bs, e, h⟩ := h
  exact ⟨bs, s _ _ e, TmsAt.tups s h⟩
theorem objs_are {β : Type} {F : Addr → β → Prop} : ∀ {ys : List V} {ts : List β}, ys.length = ts.length → (∀ (i : Nat) (y : V), ys[i]? = some y → ∃ b t, ts[i]? = some t ∧ y = .ref b ∧ F b t) → ∃ bs : List Addr, ys = bs.map .ref ∧ Paired F bs ts
  | [], [], _, _ => ⟨[], rfl, .nil⟩
  | [], _ :: _, h, _ => by simp at h
  | _ :: _, [], h, _ => by simp at h
  | y :: ys, t :: ts, hl, f => by
    obtain ⟨b, t', e1, rfl, h1⟩ := f 0 y rfl
    obtain rfl : t = t' := Option.some.inj e1
    obtain ⟨bs, e, r⟩ := objs_are (ys := ys) (ts := ts) (by simpa using hl) fun i y' h' => f (i + 1) y' (by simpa using h')
    exact ⟨b :: bs, by rw [e]; rfl, .cons h1 r⟩
def spLaw (K : PySem.W.Frag) (tb : Addr) : Sp := spG (fun a : Addr × List Int => [.ref a.1]) fun a H Q => SqL K H a.1 (a.2.map V.int) ∧ a.2.length ≤ 63 ∧ LamX.Tabs (lamT tb) H ∧ ∀ H', Q (.bl true) H'
theorem few_small {few : Nat} (h : few < 3) : 1 <<< (1 <<< few) = 2 ^ 2 ^ few ∧ 1 <<< (1 <<< few) ≤ 16 ∧ 1 <<< few ≤ 4 := by
  match few, h with
  | 0, _ => exact ⟨rfl, by decide, by decide⟩
  | 1, _ => exact ⟨rfl, by decide, by decide⟩
  | 2, _ => exact ⟨rfl, by decide, by decide⟩
theorem polys_nodup {few n : Nat} (hf : few ≤ 6) (hn : n ≤ 2 ^ 2 ^ few) : ((List.range n).map (polyOf few)).Nodup := by
  rw [List.Nodup, List.pairwise_map]
  exact List.pairwise_lt_range.imp_of_mem fun {a b} ha hb h e => by
    have h1 := List.mem_range.mp ha
    have h2 := List.mem_range.mp hb
    have := polyOf_inj hf (by omega) (by omega) e
    omega
/-- a def by its body, its function told -/
theorem okG {α : Type} {args : α → List V} {pre : α → Hp → VK → Prop} {N ps : List Str} {k : Nat} {x : Str} {st : Stmt} {f : Addr} {fd : FuncData} (F : FnP K x st f fd) (S : FnScope N ps (defScope st)) (len : ∀ a, (args a).length = ps.length)
    (hbody : ∀ (cdv : Value) (A : Around) (outer : List Env) (s : Shared) (H : Hp) (a : α) (Q : VK) (E : XK), Room k (A.deeper (envOfC x (defScope st) s.heap.objs.size f cdv)) → pre a H Q →
      ∃ t, PSs (cxOf CX0 P w K mg base N x (defScope st) f cdv A outer s H E).nox (defBody st) t ∧ t { nx := fun _ H' => Q .non H', rt := Q } (start N (args a)) H) : FnOk P w K mg base CX0 (k + 1) f fd ps (spG args pre) :=
  okF F S (fun vs H Q E h => by
    obtain ⟨a, rfl, _⟩ := h
    exact len a) fun cdv A outer s H vs Q E hr h => by
    obtain ⟨a, rfl, q⟩ := h
    exact hbody cdv A outer s H a Q E hr q
theorem ok_law (T : Txt K mg) {c tb : Addr} (hc : ∃ f fd, FnP K "_law_terms" s_law_terms f fd ∧ mg "_law_terms" = some (.ref f) ∧ fd.code = .ref c) (TB : LamX.TabB base mg c tb) {f : Addr} {fd : FuncData} (F : FnP K "law" s_law f fd) : FnOk P w K mg base CX0 8 f fd ["_law_script"] (spLaw K tb) := by
  refine okG (N := ["_law_script", "_law_state", "_law_k", "_law_many_here", "_law_one", "_law_other", "_law_word_here", "_law_few", "_law_polys", "_law_poly_here"]) F sc_law (fun _ => rfl) (fun cdv A outer s H a Q E hr h => ?_)
  obtain ⟨sc, ns⟩ := a
  obtain ⟨hS, hl, hT, q⟩ := h
  have hl : ns.length ≤ 63 := hl
  have q : ∀ H', Q (.bl true) H' := q
  have hu := hr.units
  refine ⟨_, pss_cons (ps_set (i := 1) sc_law.nd rfl (.inl rfl) (pe_dn (dn_law_hand T) (hr.mono (by decide)) (by rfl) (pa_cons (pv 0) pa_nil)))
    (pss_cons (ps_for PassesOwn.never rfl (pi_range1 (by rfl) T.n_range (pa_cons pe_int pa_nil)) (pg_name (i := 2) sc_law.nd rfl (.inl rfl))
      (pss_cons (ps_set (i := 3) sc_law.nd rfl (.inl rfl) (pe_dn (dn_law_many T) (hr.mono (by decide)) (by rfl) (pa_cons (pv 1) pa_nil)))
      (pss_cons (ps_set (i := 4) sc_law.nd rfl (.inl rfl) (pe_dn (dn_law_poly T hc TB) (hr.mono (by decide)) (by rfl) (pa_cons (pv 1) (pa_cons (pv 3) (pa_cons (pe_dn (dn_law_take T) (hr.mono (by decide)) (by rfl) (pa_cons (pv 1) (pa_cons (pe_op addN (pv 3) pe_int) pa_nil))) pa_nil)))))
      (pss_cons (ps_set (i := 5) sc_law.nd rfl (.inl rfl) (pe_dn (dn_law_poly T hc TB) (hr.mono (by decide)) (by rfl) (pa_cons (pv 1) (pa_cons (pv 3) (pa_cons (pe_dn (dn_law_take T) (hr.mono (by decide)) (by rfl) (pa_cons (pv 1) (pa_cons (pe_op addN (pv 3) pe_int) pa_nil))) pa_nil)))))
      (pss_cons (ps_set (i := 6) sc_law.nd rfl (.inl rfl) (pe_dn (dn_word_of T) (hr.mono (by decide)) (by rfl) (pa_cons (pv 3) (pa_cons (pv 4) pa_nil))))
      (pss_cons (ps_if (PW.pt (pw_or (pt_not (pt_val (pe_dn (dn_is_word T) (hr.mono (by decide)) (by rfl) (pa_cons (pv 3) (pa_cons (pv 6) pa_nil)))))
        (pw_or (pt_cmpR (op_poNe hu) (pe_dn (dn_poly_of T) (hr.mono (by decide)) (by rfl) (pa_cons (pv 3) (pa_cons (pv 6) pa_nil))) (pv 4) (nomark _))
        (pw_or1 (pt_not (pt_val (pe_dn (dn_law_together_right T) hr (by rfl) (pa_cons (pv 3) (pa_cons (pv 4) (pa_cons (pv 5) pa_nil)))))))))) (pss_one (ps_ret pe_bl)) pss_nil)
      (pss_one (ps_if (pt_not (pt_val (pe_dn (dn_law_word_right T) (hr.mono (by decide)) (by rfl) (pa_cons (pv 3) (pa_cons (pe_dn (dn_law_word T) (hr.mono (by decide)) (by rfl) (pa_cons (pe_dn (dn_law_bits T) (hr.mono (by decide)) (by rfl) (pa_cons (pv 1) (pa_cons (pe_op shlN pe_int (pv 3)) pa_nil))) pa_nil)) pa_nil))))) (pss_one (ps_ret pe_bl)) pss_nil))))))))
    (pss_cons (ps_if (pt_cmpR eqN (pe_dn (dn_law_take T) (hr.mono (by decide)) (by rfl) (pa_cons (pv 1) (pa_cons pe_int pa_nil))) pe_int (nomark _))
      (pss_cons (ps_set (i := 7) sc_law.nd rfl (.inr rfl) (pe_op addN pe_int (pe_dn (dn_law_take T) (hr.mono (by decide)) (by rfl) (pa_cons (pv 1) (pa_cons pe_int pa_nil)))))
      (pss_cons (ps_setLc (i := 8) (own := [("_law_word_here", 6)]) rfl sc_law.nd rfl rfl (by rfl) (pi_range1 (by rfl) T.n_range (pa_cons (pe_op shlN pe_int (pe_op shlN pe_int (pv 7))) pa_nil)) (blkOk_by (N := ["_law_script", "_law_state", "_law_k", "_law_many_here", "_law_one", "_law_other", "_law_word_here", "_law_few", "_law_polys", "_law_poly_here"]) (sc := defScope s_law) (by decide +kernel)) (fun _ _ _ _ _ => pg_name (i := 6) sc_law.nd rfl (.inl rfl)) (fun _ _ _ _ _ => pts_nil)
        (fun _ _ _ _ _ => pe_dn (dn_poly_of T) (hr.mono (by decide)) (by rfl) (pa_cons (pv 7) (pa_cons (pv 6) pa_nil))))
      (pss_cons (ps_if (pt_cmpR neN (pe_callB call_lenDict (by rfl) T.n_len (by decide +kernel) (pa_cons (pe_callTy (call_dictPo rfl hu) (by rfl) T.n_dict (by decide +kernel) (pa_cons (pe_lc (own := [("_law_poly_here", 9)]) (by rfl) sc_law.nd (pi_list (pv 8)) (blkOk_by (N := ["_law_script", "_law_state", "_law_k", "_law_many_here", "_law_one", "_law_other", "_law_word_here", "_law_few", "_law_polys", "_law_poly_here"]) (sc := defScope s_law) (by decide +kernel)) (fun _ _ _ _ _ => pg_name (i := 9) sc_law.nd rfl (.inl rfl)) (fun _ _ _ _ _ => pts_nil)
        (fun _ _ _ _ _ => pe_tup (pa_cons (pv 9) (pa_cons pe_bl pa_nil)))) pa_nil)) pa_nil)) (pe_callB call_len_seq (by rfl) T.n_len (by decide +kernel) (pa_cons (pv 8) pa_nil)) (nomark _)) (pss_one (ps_ret pe_bl)) pss_nil)
      (pss_one (ps_ret (pe_callB (cr_all rfl) (by rfl) T.n_all (by decide +kernel) (pa_cons (pe_lc (own := [("_law_word_here", 6)]) (by rfl) sc_law.nd (pi_range1 (by rfl) T.n_range (pa_cons (pe_callB call_len_seq (by rfl) T.n_len (by decide +kernel) (pa_cons (pv 8) pa_nil)) pa_nil)) (blkOk_by (N := ["_law_script", "_law_state", "_law_k", "_law_many_here", "_law_one", "_law_other", "_law_word_here", "_law_few", "_law_polys", "_law_poly_here"]) (sc := defScope s_law) (by decide +kernel)) (fun _ _ _ _ _ => pg_name (i := 6) sc_law.nd rfl (.inl rfl)) (fun _ _ _ _ _ => pts_nil)
        (fun _ _ _ _ _ => pe_dn (dn_law_word_right T) (hr.mono (by decide)) (by rfl) (pa_cons (pv 7) (pa_cons (pv 6) pa_nil)))) pa_nil))))))) pss_nil)
    (pss_one (ps_ret pe_bl)))), ?_⟩
  refine ⟨_, rfl, (sc, ns), rfl, hS, hl, fun H1 c0 s1 st1 => ?_⟩
  have T1 := tabs_same s1 hT
  refine ⟨4, rfl, by omega, by omega, forN (n := (4 : Int).toNat) (fun i σ H2 => ∃ y2 y3 y4 y5 y6, σ = [some (.ref sc), some (.ref c0), y2, y3, y4, y5, y6, none, none, none] ∧ StAt H2 c0 (1000 * i) ∧ LamX.Tabs (lamT tb) H2)
    ⟨none, none, none, none, none, rfl, st1, T1⟩ ?_ ?_⟩
  · rintro i σ H2 hi ⟨y2, y3, y4, y5, y6, rfl, st2, T2⟩
    have hi : i < 4 := hi
    refine ⟨_, rfl, (c0, 1000 * i), rfl, st2, by show 1000 * i ≤ 1000000; omega, fun H3 m k3 st3 hm1 hm6 => ?_⟩
    have st3 : StAt H3 c0 (1000 * i + 1) := st3
    have T3 := tabs_keep k3 st2 T2
    refine ⟨_, rfl, _, rfl, _, rfl, _, rfl, m, 1, rfl, rfl, (c0, m + 1, 1000 * i + 1), rfl, st3, ⟨by show 1 ≤ m + 1; omega, by show m + 1 ≤ 1000; omega⟩, by show 1000 * i + 1 ≤ 1000000; omega, fun H4 r k4 st4 hr4 => ?_⟩
    have st4 : StAt H4 c0 (1000 * i + 2) := st4
    have T4 := tabs_keep k4 st3 T3
    refine ⟨(c0, m, r, 1000 * i + 2), rfl, st4, hm6, by show 1000 * i + 2 ≤ 900000; omega, T4, fun H5 p5 A5 tp5 st5 T5 okA hA5 => ?_⟩
    have st5 : StAt H5 c0 (1000 * i + 68) := st5
    have okA : PolyOk m A5 := okA
    refine ⟨_, rfl, _, rfl, _, rfl, _, rfl, m, 1, rfl, rfl, (c0, m + 1, 1000 * i + 68), rfl, st5, ⟨by show 1 ≤ m + 1; omega, by show m + 1 ≤ 1000; omega⟩, by show 1000 * i + 68 ≤ 1000000; omega, fun H6 r2 k6 st6 hr6 => ?_⟩
    have st6 : StAt H6 c0 (1000 * i + 69) := st6
    have T6 := tabs_keep k6 st5 T5
    have hA6 := hA5.tups (st5.tups k6)
    refine ⟨(c0, m, r2, 1000 * i + 69), rfl, st6, hm6, by show 1000 * i + 69 ≤ 900000; omega, T6, fun H7 p7 B tp7 st7 T7 okB hB7 => ?_⟩
    have st7 : StAt H7 c0 (1000 * i + 135) := st7
    have okB : PolyOk m B := okB
    have hA7 := hA6.tups tp7
    have wl := okA.word_lt hm6
    refine ⟨_, rfl, _, rfl, (m, p5, A5), rfl, hm6, hA7, okA, fun H8 s8 => ?_⟩
    refine ⟨_, rfl, _, rfl, (m, wordOf m A5), rfl, hm6, wl, true, rfl, iteF ?_⟩
    refine ⟨_, rfl, _, rfl, (m, wordOf m A5), rfl, hm6, wl, fun H9 p9 s9 hp9 => ?_⟩
    have hp9 : PoAt H9 p9 (polyOf m (wordOf m A5)) := hp9
    rw [poly_word hm6 okA] at hp9
    have s79 := Same.trans s8 s9
    have hA9 := hA7.same s79
    have hB9 := hB7.same s79
    refine ⟨_, rfl, p9, p5, A5, A5, rfl, rfl, hp9, hA9, false, ?_, iteF ?_⟩
    · rw [decide_eq_true rfl]
      rfl
    refine ⟨_, rfl, _, rfl, _, rfl, (m, p5, A5, p7, B), rfl, hm6, hA9, hB9, okA, okB, fun H10 s10 => ⟨true, rfl, iteF ?_⟩⟩
    have s710 := Same.trans s79 s10
    have st10 := st7.same s710
    have T10 := tabs_same s710 T7
    have e1 : 1 <<< m = 2 ^ m := shl_one m
    have p64 := pow_le64 hm6
    refine ⟨_, rfl, _, rfl, _, rfl, 1, m, rfl, rfl, ⟨by decide, by omega⟩, (c0, 1 <<< m, 1000 * i + 135), rfl, st10, by show 1 <<< m ≤ 64; rw [e1]; exact p64, by show 1000 * i + 135 ≤ 900000; omega, fun H11 p11 ds k11 st11 hp11 hlen hb => ?_⟩
    have hlen : ds.length = 1 <<< m := hlen
    have hb : ∀ b ∈ ds, b ≤ 1 := hb
    have st11 : StAt H11 c0 (1000 * i + 201) := st11
    have T11 := tabs_keep k11 st10 T10
    have bl := bval_lt hb
    rw [hlen, e1] at bl
    refine ⟨(p11, ds), rfl, hp11, by show ds.length ≤ 64; rw [hlen, e1]; exact p64, (m, bval ds), rfl, hm6, bl, fun H12 s12 => ⟨true, rfl, iteF ?_⟩⟩
    exact ⟨_, _, _, _, _, rfl, (st11.mono (by omega)).same s12, tabs_same s12 T11⟩
  · rintro σ H2 ⟨y2, y3, y4, y5, y6, rfl, st2, T2⟩
    have st2 : StAt H2 c0 4000 := st2
    refine ⟨_, rfl, (c0, 8, 4000), rfl, st2, ⟨Nat.le_of_ble_eq_true rfl, Nat.le_of_ble_eq_true rfl⟩, Nat.le_of_ble_eq_true rfl, fun H3 r k3 st3 hr3 => ?_⟩
    have st3 : StAt H3 c0 4001 := st3
    refine ⟨r, 0, rfl, rfl, _, rfl, ?_⟩
    by_cases h0 : r = 0
    · rw [decide_eq_true h0]
      refine iteT ⟨_, rfl, (c0, 2, 4001), rfl, st3, ⟨Nat.le_of_ble_eq_true rfl, Nat.le_of_ble_eq_true rfl⟩, Nat.le_of_ble_eq_true rfl, fun H4 r2 k4 st4 hr4 => ?_⟩
      have hr4 : r2 < 2 := hr4
      refine ⟨1, r2, rfl, rfl, ?_⟩
      obtain ⟨g1, g2, g3⟩ := few_small (few := 1 + r2) (by omega)
      have f6 : 1 + r2 ≤ 6 := by omega
      have z0 : (0 : Int) ≤ ((1 <<< (1 <<< (1 + r2)) : Nat) : Int) := Int.natCast_nonneg _
      have z1 : ((1 <<< (1 <<< (1 + r2)) : Nat) : Int) ≤ ((16 : Nat) : Int) := Int.ofNat_le.mpr g2
      refine ⟨_, rfl, 1, 1 + r2, rfl, rfl, ⟨by decide, by omega⟩, 1, 1 <<< (1 + r2), rfl, rfl, ⟨by decide, Nat.le_trans g3 (by decide)⟩, ((1 <<< (1 <<< (1 + r2)) : Nat) : Int), rfl, by generalize ((1 <<< (1 <<< (1 + r2)) : Nat) : Int) = z at z0 z1 ⊢; omega, by generalize ((1 <<< (1 <<< (1 + r2)) : Nat) : Int) = z at z0 z1 ⊢; omega,
        fun D nD => lcRN (n := 1 <<< (1 <<< (1 + r2))) (fun Hh i y => ∃ b, y = .ref b ∧ PoAt Hh b (polyOf (1 + r2) i)) nD (Nat.le_trans g2 (by decide)) (fun _ _ _ _ tp ⟨b, z1, z2⟩ => ⟨b, z1, z2.tups tp⟩) (fun i H5 Qy hi sm k => ?_) (fun H5 ys sm hlen hR hD => ?_) (gName_mono 6)⟩
      · rw [g1] at hi
        refine ⟨rfl, _, rfl, _, rfl, (1 + r2, i), rfl, f6, hi, fun H6 p6 s6 hp6 => k _ _ s6 ⟨p6, rfl, hp6⟩⟩
      obtain ⟨pa, e, hpa⟩ := objs_are (F := PoAt H5) (ys := ys) (ts := (List.range (1 <<< (1 <<< (1 + r2)))).map (polyOf (1 + r2))) (by rw [hlen, List.length_map, List.length_range]) fun i y hy => by
        obtain ⟨b, e1, e2⟩ := hR i y hy
        have hi := (List.getElem?_eq_some_iff.mp hy).1
        rw [hlen] at hi
        exact ⟨b, polyOf (1 + r2) i, by rw [List.getElem?_map, List.getElem?_range hi]; rfl, e1, e2⟩
      subst e
      have lpa := paired_len hpa
      rw [List.length_map, List.length_range] at lpa
      have nd := polys_nodup (few := 1 + r2) (n := 1 <<< (1 <<< (1 + r2))) f6 (Nat.le_of_eq g1)
      refine ⟨_, rfl, D, rfl, ⟨_, SqL.of hD⟩, fun D2 nD2 => lcL (SqL.of hD) (fun Hh i y => ∃ U p, pa[i]? = some p ∧ y = .ref U ∧ Hh U = some (.tup [.ref p, .bl true])) nD2 (by rw [List.length_map, lpa]; exact Nat.le_trans g2 (by decide)) (fun _ _ _ _ tp ⟨U, p, z1, z2, z3⟩ => ⟨U, p, z1, z2, tp _ _ z3⟩) (fun i H6 x Qy hx sm2 k => ?_) (fun H6 ys2 sm2 hlen2 hR2 hD2 => ?_) (gName_mono 9)⟩
      · rw [List.getElem?_map] at hx
        cases ep : pa[i]? with
        | none => rw [ep] at hx; cases hx
        | some p =>
          rw [ep] at hx
          cases hx
          refine ⟨rfl, _, rfl, szl (Nat.le_of_ble_eq_true rfl), fun U nU => k _ _ (same_new nU) ⟨U, p, ep, rfl, upd_same⟩⟩
      obtain ⟨Ts, e, hTs⟩ := objs_are (F := fun U p => H6 U = some (.tup [.ref p, .bl true])) (ys := ys2) (ts := pa) (by rw [hlen2, List.length_map]) fun i y hy => by
        obtain ⟨U, p, e1, e2, e3⟩ := hR2 i y hy
        exact ⟨U, p, e1, e2, e3⟩
      subst e
      have lPs : ((List.range (1 <<< (1 <<< (1 + r2)))).map (polyOf (1 + r2))).length = 1 <<< (1 <<< (1 + r2)) := by rw [List.length_map, List.length_range]
      refine ⟨D2, Ts, pa, _, rfl, SqL.of hD2, hTs, paired_imp hpa fun _ _ z => z.same sm2, nd, by rw [lPs]; exact Nat.le_trans g2 (by decide), fun d nd2 => ?_⟩
      have sd := same_new (o := DLen d ((List.range (1 <<< (1 <<< (1 + r2)))).map (polyOf (1 + r2))).length) nd2
      have hD7 := sd _ _ (sm2 _ _ hD)
      refine ⟨d, _, rfl, upd_same, by rw [lPs]; exact Nat.le_trans g2 (by decide), ?_⟩
      refine ⟨_, rfl, D, _, rfl, .inl (SqL.of hD7), ((List.range (1 <<< (1 <<< (1 + r2)))).map (polyOf (1 + r2))).length, (pa.map V.ref).length, rfl, rfl, _, rfl, ?_⟩
      rw [lPs, List.length_map, lpa, decide_eq_true rfl]
      rw [lPs] at hD7
      refine iteF ?_
      have z2 : ((pa.map V.ref).length : Int) ≤ ((16 : Nat) : Int) := Int.ofNat_le.mpr (by rw [List.length_map, lpa]; exact g2)
      refine ⟨_, rfl, D, _, rfl, .inl (SqL.of hD7), ((pa.map V.ref).length : Int), rfl, by omega, by omega, fun D3 nD3 => lcRN (n := (pa.map V.ref).length) (fun _ _ y => y = .bl true) nD3 (by rw [List.length_map, lpa]; exact Nat.le_trans g2 (by decide)) (fun _ _ _ _ _ z => z) (fun i H8 Qy hi sm3 k => ?_) (fun H8 ys3 sm3 hlen3 hR3 hD3 => ?_) (gName_mono 6)⟩
      · rw [List.length_map, lpa, g1] at hi
        refine ⟨rfl, _, rfl, _, rfl, (1 + r2, i), rfl, f6, hi, fun H9 s9 => k _ _ s9 rfl⟩
      · have e3 := trues_are hlen3 hR3
        subst e3
        refine ⟨D3, _, rfl, SqL.of hD3, ?_⟩
        rw [all_trues]
        exact q _
    · rw [decide_eq_false h0]
      exact iteF (q H3)
end
end YN
set_option Elab.async false
set_option linter.all false
set_option maxRecDepth 100000
set_option maxHeartbeats 0
namespace YN
open PySem PySem.Spec PyProof.Rows L2
theorem txt_of {w : World} {K : PySem.W.Frag} {h : Heap} {mg : Str → Option Value} (X : K.In h) (G : h.Ns mainGlobals mg) (c : He.SaysD faL fnL K) : Txt K mg where
  d_is_whole := by
    obtain ⟨fd, F⟩ := c.def_ 0 (d := D_is_whole) rfl
    exact ⟨_, fd, F, He.glo_ok X G (c.fact 0 (f := .glo "is_whole") rfl)⟩
  d_is_word := by
    obtain ⟨fd, F⟩ := c.def_ 1 (d := D_is_word) rfl
    exact ⟨_, fd, F, He.glo_ok X G (c.fact 1 (f := .glo "is_word") rfl)⟩
  d_says := by
    obtain ⟨fd, F⟩ := c.def_ 2 (d := D_says) rfl
    exact ⟨_, fd, F, He.glo_ok X G (c.fact 2 (f := .glo "says") rfl)⟩
  d_where := by
    obtain ⟨fd, F⟩ := c.def_ 3 (d := D_where) rfl
    exact ⟨_, fd, F, He.glo_ok X G (c.fact 3 (f := .glo "where") rfl)⟩
  d_word_at := by
    obtain ⟨fd, F⟩ := c.def_ 4 (d := D_word_at) rfl
    exact ⟨_, fd, F, He.glo_ok X G (c.fact 4 (f := .glo "word_at") rfl)⟩
  d_plus := by
    obtain ⟨fd, F⟩ := c.def_ 5 (d := D_plus) rfl
    exact ⟨_, fd, F, He.glo_ok X G (c.fact 5 (f := .glo "plus") rfl)⟩
  d_times := by
    obtain ⟨fd, F⟩ := c.def_ 6 (d := D_times) rfl
    exact ⟨_, fd, F, He.glo_ok X G (c.fact 6 (f := .glo "times") rfl)⟩
  d_word_without := by
    obtain ⟨fd, F⟩ := c.def_ 7 (d := D_word_without) rfl
    exact ⟨_, fd, F, He.glo_ok X G (c.fact 7 (f := .glo "word_without") rfl)⟩
  d_step_by := by
    obtain ⟨fd, F⟩ := c.def_ 8 (d := D_step_by) rfl
    exact ⟨_, fd, F, He.glo_ok X G (c.fact 8 (f := .glo "step_by") rfl)⟩
  d_steps := by
    obtain ⟨fd, F⟩ := c.def_ 9 (d := D_steps) rfl
    exact ⟨_, fd, F, He.glo_ok X G (c.fact 9 (f := .glo "steps") rfl)⟩
  d_shows_steps := by
    obtain ⟨fd, F⟩ := c.def_ 10 (d := D_shows_steps) rfl
    exact ⟨_, fd, F, He.glo_ok X G (c.fact 10 (f := .glo "shows_steps") rfl)⟩
  d_is_term := by
    obtain ⟨fd, F⟩ := c.def_ 11 (d := D_is_term) rfl
    exact ⟨_, fd, F, He.glo_ok X G (c.fact 11 (f := .glo "is_term") rfl)⟩
  d_rank_of := by
    obtain ⟨fd, F⟩ := c.def_ 12 (d := D_rank_of) rfl
    exact ⟨_, fd, F, He.glo_ok X G (c.fact 12 (f := .glo "rank_of") rfl)⟩
  d_is_poly := by
    obtain ⟨fd, F⟩ := c.def_ 13 (d := D_is_poly) rfl
    exact ⟨_, fd, F, He.glo_ok X G (c.fact 13 (f := .glo "is_poly") rfl)⟩
  d_in_order := by
    obtain ⟨fd, F⟩ := c.def_ 14 (d := D_in_order) rfl
    exact ⟨_, fd, F, He.glo_ok X G (c.fact 14 (f := .glo "in_order") rfl)⟩
  d_degree := by
    obtain ⟨fd, F⟩ := c.def_ 15 (d := D_degree) rfl
    exact ⟨_, fd, F, He.glo_ok X G (c.fact 15 (f := .glo "degree") rfl)⟩
  d_place_of := by
    obtain ⟨fd, F⟩ := c.def_ 16 (d := D_place_of) rfl
    exact ⟨_, fd, F, He.glo_ok X G (c.fact 16 (f := .glo "place_of") rfl)⟩
  d_term_at := by
    obtain ⟨fd, F⟩ := c.def_ 17 (d := D_term_at) rfl
    exact ⟨_, fd, F, He.glo_ok X G (c.fact 17 (f := .glo "term_at") rfl)⟩
  d_value := by
    obtain ⟨fd, F⟩ := c.def_ 18 (d := D_value) rfl
    exact ⟨_, fd, F, He.glo_ok X G (c.fact 18 (f := .glo "value") rfl)⟩
  d_odd_ones := by
    obtain ⟨fd, F⟩ := c.def_ 19 (d := D_odd_ones) rfl
    exact ⟨_, fd, F, He.glo_ok X G (c.fact 19 (f := .glo "odd_ones") rfl)⟩
  d_poly_sum := by
    obtain ⟨fd, F⟩ := c.def_ 20 (d := D_poly_sum) rfl
    exact ⟨_, fd, F, He.glo_ok X G (c.fact 20 (f := .glo "poly_sum") rfl)⟩
  d_poly_product := by
    obtain ⟨fd, F⟩ := c.def_ 21 (d := D_poly_product) rfl
    exact ⟨_, fd, F, He.glo_ok X G (c.fact 21 (f := .glo "poly_product") rfl)⟩
  d_word_of := by
    obtain ⟨fd, F⟩ := c.def_ 22 (d := D_word_of) rfl
    exact ⟨_, fd, F, He.glo_ok X G (c.fact 22 (f := .glo "word_of") rfl)⟩
  d_poly_of := by
    obtain ⟨fd, F⟩ := c.def_ 23 (d := D_poly_of) rfl
    exact ⟨_, fd, F, He.glo_ok X G (c.fact 23 (f := .glo "poly_of") rfl)⟩
  d_law_hand := by
    obtain ⟨fd, F⟩ := c.def_ 24 (d := D_law_hand) rfl
    exact ⟨_, fd, F, He.glo_ok X G (c.fact 24 (f := .glo "_law_hand") rfl)⟩
  d_law_take := by
    obtain ⟨fd, F⟩ := c.def_ 25 (d := D_law_take) rfl
    exact ⟨_, fd, F, He.glo_ok X G (c.fact 25 (f := .glo "_law_take") rfl)⟩
  d_law_many := by
    obtain ⟨fd, F⟩ := c.def_ 26 (d := D_law_many) rfl
    exact ⟨_, fd, F, He.glo_ok X G (c.fact 26 (f := .glo "_law_many") rfl)⟩
  d_law_bits := by
    obtain ⟨fd, F⟩ := c.def_ 27 (d := D_law_bits) rfl
    exact ⟨_, fd, F, He.glo_ok X G (c.fact 27 (f := .glo "_law_bits") rfl)⟩
  d_law_word := by
    obtain ⟨fd, F⟩ := c.def_ 28 (d := D_law_word) rfl
    exact ⟨_, fd, F, He.glo_ok X G (c.fact 28 (f := .glo "_law_word") rfl)⟩
  d_law_terms := by
    obtain ⟨fd, F⟩ := c.def_ 29 (d := D_law_terms) rfl
    exact ⟨_, fd, F, He.glo_ok X G (c.fact 29 (f := .glo "_law_terms") rfl)⟩
  d_law_poly := by
    obtain ⟨fd, F⟩ := c.def_ 30 (d := D_law_poly) rfl
    exact ⟨_, fd, F, He.glo_ok X G (c.fact 30 (f := .glo "_law_poly") rfl)⟩
  d_law_word_right := by
    obtain ⟨fd, F⟩ := c.def_ 31 (d := D_law_word_right) rfl
    exact ⟨_, fd, F, He.glo_ok X G (c.fact 31 (f := .glo "_law_word_right") rfl)⟩
  d_law_together_right := by
    obtain ⟨fd, F⟩ := c.def_ 32 (d := D_law_together_right) rfl
    exact ⟨_, fd, F, He.glo_ok X G (c.fact 32 (f := .glo "_law_together_right") rfl)⟩
  d_law := by
    obtain ⟨fd, F⟩ := c.def_ 33 (d := D_law) rfl
    exact ⟨_, fd, F, He.glo_ok X G (c.fact 33 (f := .glo "law") rfl)⟩
  n_isinstance := He.free_ok X G (c.fact 34 (f := .free "isinstance") rfl)
  n_int := He.free_ok X G (c.fact 35 (f := .free "int") rfl)
  n_bool := He.free_ok X G (c.fact 36 (f := .free "bool") rfl)
  n_tuple := He.free_ok X G (c.fact 37 (f := .free "tuple") rfl)
  n_sum := He.free_ok X G (c.fact 38 (f := .free "sum") rfl)
  n_range := He.free_ok X G (c.fact 39 (f := .free "range") rfl)
  n_len := He.free_ok X G (c.fact 40 (f := .free "len") rfl)
  n_all := He.free_ok X G (c.fact 41 (f := .free "all") rfl)
  n_zip := He.free_ok X G (c.fact 42 (f := .free "zip") rfl)
  n_max := He.free_ok X G (c.fact 43 (f := .free "max") rfl)
  n_sorted := He.free_ok X G (c.fact 44 (f := .free "sorted") rfl)
  n_abs := He.free_ok X G (c.fact 45 (f := .free "abs") rfl)
  n_enumerate := He.free_ok X G (c.fact 46 (f := .free "enumerate") rfl)
  n_reversed := He.free_ok X G (c.fact 47 (f := .free "reversed") rfl)
  n_list := He.free_ok X G (c.fact 48 (f := .free "list") rfl)
  n_dict := He.free_ok X G (c.fact 49 (f := .free "dict") rfl)
theorem ends {w : World} {K : PySem.W.Frag} {h : Heap} {mg : Str → Option Value} {fa : Addr} (X : K.In h) (G : h.Ns mainGlobals mg) (hfa : mg ("law" : Str) = some (.ref fa)) (c : He.SaysX faL fnL [] tfL (fun _ => true) w h K) :
    LamX.LawAtS PySem.Challenge.rw_yesnowords_k90_whole_one_polynomial w K CX0 8 63 "_law_script" mg fa h := by
  have cd := c.t.d
  have T := txt_of (w := w) X G cd
  obtain ⟨fd, F⟩ := cd.def_ 33 (d := D_law) rfl
  have e := hfa.symm.trans (He.glo_ok X G (cd.fact 33 (f := .glo "law") rfl))
  cases e
  obtain ⟨fT, FT⟩ := cd.def_ 29 (d := D_law_terms) rfl
  have gT := He.glo_ok X G (cd.fact 29 (f := .glo "_law_terms") rfl)
  obtain ⟨cc, hcc⟩ : ∃ cc, fT.code = .ref cc := by
    obtain ⟨oc, od, dV, kV, doc, pm, an, cdv, ct, osl, rfl, lk, hcd, _, _⟩ := FT.ex
    exact He.codeIn_ref hcd
  have ec : He.codeOf K (("_law_terms" : Str), none) = cc := by
    obtain ⟨oc, od, dV, kV, doc, pm, an, cdv, ct, osl, e, lk, hcd, _, _⟩ := FT.ex
    exact He.codeOf_eq lk hcc
  have hm : (("_law_terms" : Str), (none : Option Str)) ∈ tfL := List.mem_singleton.mpr rfl
  have b := FunD.bindsA (ps := ["_law_script"]) F fun _ _ _ _ _ _ us hl => match us, hl with | [_], _ => rfl
  refine ⟨fd, [He.cT K (("_law_terms" : Str), none)], spLaw K (He.cT K (("_law_terms" : Str), none)).2, fun p hp => ?_, fun p hp => ?_, fun p hp => ?_, fun s v => b s [v] rfl, fun H a ns hl _ hT hS => ?_, fun base _ _ TB => ?_⟩
  · rw [List.mem_singleton.mp hp]
    exact c.empty _ hm
  · rw [List.mem_singleton.mp hp]
    exact c.out _ hm
  · rw [List.mem_singleton.mp hp]
    exact PySem.W.codeHd_of_K X (c.hd _ hm)
  · refine ⟨(a, ns), rfl, hS, hl, fun p hp => ?_, fun _ => rfl⟩
    rw [List.mem_singleton.mp hp]
    exact LamX.TabS.nil (hT _ (List.mem_singleton.mpr rfl))
  · exact ok_law T ⟨_, fT, FT, gT, by rw [hcc]; exact congrArg Value.ref ec.symm⟩ (TB _ (List.mem_singleton.mpr rfl)) F
end YN
open PySem PySem.W PySem.Calls PyProof.Rows
theorem PySem.Challenge.cw_yesnowords_k90_whole_one_polynomial_holds : PySem.Challenge.rw_yesnowords_k90_whole_one_polynomial.Holds := by
  w_on; o_law
  refine HandSHeadRun.head_any (r := OpenLaw.row PySem.Challenge.rw_yesnowords_k90_whole_one_polynomial) (q := view (OpenLaw.row PySem.Challenge.rw_yesnowords_k90_whole_one_polynomial).prog [37]) (H := YN.hk) (ob := YN.ob) (M := 2000) (loose := YN.loose) (d := HandSHeadRun.topDef (OpenLaw.row PySem.Challenge.rw_yesnowords_k90_whole_one_polynomial).prog 37) (kwd := []) YN.ob_eq
    (by kernel_rfl) (fun s => by kernel_rfl) YN.run (by kernel_rfl) (by kernel_rfl) (by kernel_rfl) (by rfl) (by first | assumption | decide +kernel) (by decide +kernel) ⟨rfl, rfl, rfl, rfl, rfl, by decide +kernel⟩ ?hw ?hc
  case hw => w_witness2
  case hc =>
    refine LamX.walk_ofTsE (l := PySem.Challenge.rw_yesnowords_k90_whole_one_polynomial) (n := 63) (k := 8) (x := "_law_script") (CX := fun _ => L2.CX0) rfl (by decide) (by kernel_rfl) ⟨rfl, by decide, by decide⟩ ?F (fun _ _ _ _ _ z => z)
    intro w mg fa h Y G hmg0
    obtain ⟨K, KX, c⟩ := Y
    have hmg : mg ("law" : PySem.Str) = some (.ref fa) := by
      have e : (HandSHeadRun.topDef (OpenLaw.row PySem.Challenge.rw_yesnowords_k90_whole_one_polynomial).prog 37).name = ("law" : PySem.Str) := by kernel_rfl
      rw [← e]
      exact hmg0
    exact ⟨K, KX, YN.ends KX G hmg c⟩
